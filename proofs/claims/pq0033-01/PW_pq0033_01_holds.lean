import PyProof.Rows.All
import Wide.All
import OpenK.AllK
import Wide.FinOn
import PyProof.Rows.SortStr
import KE.KDictSum
import KE.KDictOf
import PyProof.IsiH_list
import KE.KSuper
import KE.KFromBytes
import ObjForm.Fk.InstStore
import Lean
import PySem.Challenge.RW_pq0033_01
set_option Elab.async false
set_option maxRecDepth 100000
set_option linter.unusedVariables false
section
open PySem PySem.W PyProof.Rows
set_option maxHeartbeats 80000000
namespace Mine
/-! the heap that the module's top leaves, and the view of the text, by reference to the program's term -/
noncomputable abbrev pw0 : Program := PySem.Challenge.pw_pq0033_01
noncomputable def s1 (i : Nat) : Stmt := match pw0.main.body.drop i with
  | x :: _ => x
  | [] => .Pass ⟨0, 0, 0, 0⟩
noncomputable def s2 (i j : Nat) : Stmt := match s1 i with
  | .ClassDef _ _ _ b _ _ _ _ _ _ _ => (match b.drop j with
    | x :: _ => x
    | [] => .Pass ⟨0, 0, 0, 0⟩)
  | x => x
noncomputable def fArgs : Stmt → Arguments
  | .FunctionDef _ a _ _ _ _ _ _ _ _ => a
  | _ => ⟨[], [], none, [], [], none, []⟩
noncomputable def fBody : Stmt → List Stmt
  | .FunctionDef _ _ b _ _ _ _ _ _ _ => b
  | _ => []
noncomputable def fScope : Stmt → Scope
  | .FunctionDef _ _ _ _ _ _ s _ _ _ => s
  | _ => { kind := .function, names := [], isGenerator := false, isCoroutine := false }
noncomputable abbrev fd (name qual : Str) (s : Stmt) (g : Addr) (cl : List (Str × Addr)) (d kd doc pm : Value) (an : Option Addr) (cd ct : Value) (bl : Addr) : FuncData :=
  ⟨name, qual, fArgs s, .stmts (fBody s), fScope s, g, cl, d, kd, doc, pm, an, cd, ct, bl⟩
noncomputable abbrev en (P : Params) (k : Str) (t : Tok) (v : Value) : DictEntry := ⟨PyData.keyHash P k, .str k t, v⟩
noncomputable def topK (P : Params) : Frag := [
  (2, ⟨.none, .none, .dict #[en P "type.__subclasses__.Exception.0" 230 (.int 47 0), en P "type.__subclasses__.Exception.n" 231 (.int 1 0)] 2, #[]⟩),
  (3, ⟨.type "dict", .none, .dict #[en P "__name__" 165 (.str "law_pq0033_01" 376), en P "__doc__" 166 .none, en P "__package__" 167 .none, en P "__loader__" 168 (.builtin "__main__.__loader__#opaque"), en P "__spec__" 169 .none, en P "__annotations__" 170 (.ref 6), en P "__builtins__" 171 (.ref 4), en P "__file__" 173 (.str "/claim/cut.py" 172), en P "__cached__" 174 .none, en P "_wall" 193 (.ref 21), en P "HeapError" 233 (.ref 47), en P "TermFault" 249 (.ref 60), en P "RuleFault" 265 (.ref 72), en P "is_variable" 274 (.ref 81), en P "variables" 280 (.ref 86), en P "parts" 286 (.ref 91), en P "Rule" 325 (.ref 113), en P "A" 331 (.ref 118), en P "B" 332 (.ref 119), en P "C" 333 (.ref 120), en P "named_value" 341 (.ref 131), en P "Lists" 375 (.ref 153), en P "_law_dip" 387 (.ref 164), en P "_law_value" 393 (.ref 169), en P "_law_told" 402 (.ref 176), en P "_law_names" 413 (.ref 183), en P "_law_rule_right" 419 (.ref 188), en P "_law_drawn" 429 (.ref 195), en P "_law_short" 438 (.ref 202), en P "_law_met" 444 (.ref 207), en P "_law_put" 450 (.ref 212), en P "_law_turned" 456 (.ref 217), en P "law" 462 (.ref 222)] 33, #[]⟩),
  (15, ⟨.type "tuple", .none, .seq #[] 0, #[]⟩),
  (17, ⟨.type "tuple", .none, .seq #[.str "k" 190] 0, #[]⟩),
  (18, ⟨.type "tuple", .none, .seq #[] 0, #[]⟩),
  (20, ⟨.type "code", .none, .fields #[.str "_wall" 187, .str "_wall" 188, .str "/claim/cut.py" 189, .int 1 0, .int 1 0, .int 0 0, .int 0 0, .int 3 0, .ref 15, .bool true, .int 181 0, .ref 16, .none, .ref 17, .ref 18, .ref 19, .int 191 0, .int 1 0, .str "/claim/cut.py" 192], #[]⟩),
  (21, ⟨.type "function", .none, .func (fd "_wall" "_wall" (s1 0) 3 [] .none .none .none (.str "__main__" 164) .none (.ref 20) .none 0), #[]⟩),
  (22, ⟨.type "tuple", .none, .seq #[.type "Exception"] 0, #[]⟩),
  (25, ⟨.type "cell", .none, .cell (.some (.ref 47)), #[]⟩),
  (30, ⟨.type "tuple", .none, .seq #[.ref 25] 0, #[]⟩),
  (31, ⟨.type "tuple", .none, .seq #[.str "__class__" 211] 0, #[]⟩),
  (33, ⟨.type "tuple", .none, .seq #[.str "self" 212, .str "what" 213] 0, #[]⟩),
  (34, ⟨.type "tuple", .none, .seq #[] 0, #[]⟩),
  (36, ⟨.type "code", .none, .fields #[.str "__init__" 208, .str "HeapError.__init__" 209, .str "/claim/cut.py" 210, .int 7 0, .int 2 0, .int 0 0, .int 0 0, .int 3 0, .ref 31, .bool true, .int 181 0, .ref 32, .none, .ref 33, .ref 34, .ref 35, .int 214 0, .int 7 0, .str "/claim/cut.py" 215], #[]⟩),
  (37, ⟨.type "function", .none, .func (fd "__init__" "HeapError.__init__" (s2 2 0) 3 [("__class__", 25)] .none .none .none (.str "alikeheap.errors" 194) .none (.ref 36) (.ref 30) 0), #[]⟩),
  (38, ⟨.type "tuple", .none, .seq #[] 0, #[]⟩),
  (40, ⟨.type "tuple", .none, .seq #[.str "self" 220] 0, #[]⟩),
  (41, ⟨.type "tuple", .none, .seq #[] 0, #[]⟩),
  (43, ⟨.type "code", .none, .fields #[.str "told" 217, .str "HeapError.told" 218, .str "/claim/cut.py" 219, .int 11 0, .int 1 0, .int 0 0, .int 0 0, .int 3 0, .ref 38, .bool true, .int 181 0, .ref 39, .none, .ref 40, .ref 41, .ref 42, .int 221 0, .int 11 0, .str "/claim/cut.py" 222], #[]⟩),
  (44, ⟨.type "function", .none, .func (fd "told" "HeapError.told" (s2 2 1) 3 [] .none .none .none (.str "alikeheap.errors" 194) .none (.ref 43) .none 0), #[]⟩),
  (45, ⟨.type "tuple", .none, .seq #[.str "what" 224] 0, #[]⟩),
  (46, ⟨.type "dict", .none, .dict #[en P "__module__" 203 (.str "alikeheap.errors" 194), en P "__firstlineno__" 207 (.int 5 206), en P "__init__" 216 (.ref 37), en P "told" 223 (.ref 44), en P "__static_attributes__" 225 (.ref 45), en P "__weakref__" 228 (.ref 48), en P "__doc__" 229 .none] 4, #[]⟩),
  (47, ⟨.type "type", .none, .cls ⟨"HeapError", [.type "Exception"], [.ref 47, .type "Exception", .type "BaseException", .type "object"], 46, "HeapError", true, [], [.ref 60, .ref 72], false, .none, false⟩, #[.some (.ref 22), .none, .some (.str "HeapError" 196), .some (.str "HeapError" 204), .some (.builtin "Exception.__new__"), .some (.bool true)]⟩),
  (48, ⟨.type "getset_descriptor", .none, .fields #[.str "__weakref__" 227, .ref 47, .builtin "ExceptionGroup.__weakref__", .none], #[]⟩),
  (51, ⟨.type "tuple", .none, .seq #[.ref 47] 0, #[]⟩),
  (58, ⟨.type "tuple", .none, .seq #[] 0, #[]⟩),
  (59, ⟨.type "dict", .none, .dict #[en P "__module__" 241 (.str "alikeheap.errors" 194), en P "__firstlineno__" 245 (.int 13 244), en P "__static_attributes__" 246 (.ref 58), en P "__doc__" 247 .none] 2, #[]⟩),
  (60, ⟨.type "type", .none, .cls ⟨"TermFault", [.ref 47], [.ref 60, .ref 47, .type "Exception", .type "BaseException", .type "object"], 59, "TermFault", true, [], [], false, .none, false⟩, #[.some (.ref 51), .none, .some (.str "TermFault" 234), .some (.str "TermFault" 242), .some (.builtin "Exception.__new__"), .some (.bool true)]⟩),
  (63, ⟨.type "tuple", .none, .seq #[.ref 47] 0, #[]⟩),
  (70, ⟨.type "tuple", .none, .seq #[] 0, #[]⟩),
  (71, ⟨.type "dict", .none, .dict #[en P "__module__" 257 (.str "alikeheap.errors" 194), en P "__firstlineno__" 261 (.int 15 260), en P "__static_attributes__" 262 (.ref 70), en P "__doc__" 263 .none] 2, #[]⟩),
  (72, ⟨.type "type", .none, .cls ⟨"RuleFault", [.ref 47], [.ref 72, .ref 47, .type "Exception", .type "BaseException", .type "object"], 71, "RuleFault", true, [], [], false, .none, false⟩, #[.some (.ref 63), .none, .some (.str "RuleFault" 250), .some (.str "RuleFault" 258), .some (.builtin "Exception.__new__"), .some (.bool true)]⟩),
  (75, ⟨.type "tuple", .none, .seq #[] 0, #[]⟩),
  (77, ⟨.type "tuple", .none, .seq #[.str "t" 271] 0, #[]⟩),
  (78, ⟨.type "tuple", .none, .seq #[] 0, #[]⟩),
  (80, ⟨.type "code", .none, .fields #[.str "is_variable" 268, .str "is_variable" 269, .str "/claim/cut.py" 270, .int 18 0, .int 1 0, .int 0 0, .int 0 0, .int 3 0, .ref 75, .bool true, .int 181 0, .ref 76, .none, .ref 77, .ref 78, .ref 79, .int 272 0, .int 18 0, .str "/claim/cut.py" 273], #[]⟩),
  (81, ⟨.type "function", .none, .func (fd "is_variable" "is_variable" (s1 6) 3 [] .none .none .none (.str "alikeheap.terms" 266) .none (.ref 80) .none 0), #[]⟩),
  (82, ⟨.type "tuple", .none, .seq #[] 0, #[]⟩),
  (85, ⟨.type "code", .none, .fields #[.str "variables" 275, .str "variables" 276, .str "/claim/cut.py" 277, .int 20 0, .int 1 0, .int 0 0, .int 0 0, .int 3 0, .ref 82, .bool true, .int 181 0, .ref 83, .none, .none, .none, .ref 84, .int 278 0, .int 20 0, .str "/claim/cut.py" 279], #[]⟩),
  (86, ⟨.type "function", .none, .func (fd "variables" "variables" (s1 7) 3 [] .none .none .none (.str "alikeheap.terms" 266) .none (.ref 85) .none 0), #[]⟩),
  (87, ⟨.type "tuple", .none, .seq #[] 0, #[]⟩),
  (90, ⟨.type "code", .none, .fields #[.str "parts" 281, .str "parts" 282, .str "/claim/cut.py" 283, .int 22 0, .int 1 0, .int 0 0, .int 0 0, .int 3 0, .ref 87, .bool true, .int 181 0, .ref 88, .none, .none, .none, .ref 89, .int 284 0, .int 22 0, .str "/claim/cut.py" 285], #[]⟩),
  (91, ⟨.type "function", .none, .func (fd "parts" "parts" (s1 8) 3 [] .none .none .none (.str "alikeheap.terms" 266) .none (.ref 90) .none 0), #[]⟩),
  (99, ⟨.type "tuple", .none, .seq #[] 0, #[]⟩),
  (102, ⟨.type "code", .none, .fields #[.str "__init__" 301, .str "Rule.__init__" 302, .str "/claim/cut.py" 303, .int 30 0, .int 5 0, .int 0 0, .int 0 0, .int 3 0, .ref 99, .bool true, .int 181 0, .ref 100, .none, .none, .none, .ref 101, .int 304 0, .int 30 0, .str "/claim/cut.py" 305], #[]⟩),
  (103, ⟨.type "function", .none, .func (fd "__init__" "Rule.__init__" (s2 10 0) 3 [] .none .none .none (.str "alikeheap.rules" 287) .none (.ref 102) .none 0), #[]⟩),
  (104, ⟨.type "tuple", .none, .seq #[] 0, #[]⟩),
  (106, ⟨.type "tuple", .none, .seq #[.str "self" 310] 0, #[]⟩),
  (107, ⟨.type "tuple", .none, .seq #[] 0, #[]⟩),
  (109, ⟨.type "code", .none, .fields #[.str "turned" 307, .str "Rule.turned" 308, .str "/claim/cut.py" 309, .int 46 0, .int 1 0, .int 0 0, .int 0 0, .int 3 0, .ref 104, .bool true, .int 181 0, .ref 105, .none, .ref 106, .ref 107, .ref 108, .int 311 0, .int 46 0, .str "/claim/cut.py" 312], #[]⟩),
  (110, ⟨.type "function", .none, .func (fd "turned" "Rule.turned" (s2 10 1) 3 [] .none .none .none (.str "alikeheap.rules" 287) .none (.ref 109) .none 0), #[]⟩),
  (111, ⟨.type "tuple", .none, .seq #[.str "left" 314, .str "name" 315, .str "needs" 316, .str "right" 317] 0, #[]⟩),
  (112, ⟨.type "dict", .none, .dict #[en P "__module__" 296 (.str "alikeheap.rules" 287), en P "__firstlineno__" 300 (.int 28 299), en P "__init__" 306 (.ref 103), en P "turned" 313 (.ref 110), en P "__static_attributes__" 318 (.ref 111), en P "__dict__" 320 (.ref 114), en P "__weakref__" 322 (.ref 115), en P "__doc__" 323 .none] 4, #[]⟩),
  (113, ⟨.type "type", .none, .cls ⟨"Rule", [.type "object"], [.ref 113, .type "object"], 112, "Rule", true, [], [], false, .none, false⟩, #[.none, .none, .some (.str "Rule" 289), .some (.str "Rule" 297), .some (.builtin "object.__new__"), .some (.bool true)]⟩),
  (114, ⟨.type "getset_descriptor", .none, .fields #[.str "__dict__" 319, .ref 113, .builtin "function.__dict__", .builtin "function.__dict__#set"], #[]⟩),
  (115, ⟨.type "getset_descriptor", .none, .fields #[.str "__weakref__" 321, .ref 113, .builtin "ExceptionGroup.__weakref__", .none], #[]⟩),
  (118, ⟨.type "tuple", .none, .seq #[.str "?a" 328] 0, #[]⟩),
  (119, ⟨.type "tuple", .none, .seq #[.str "?b" 329] 0, #[]⟩),
  (120, ⟨.type "tuple", .none, .seq #[.str "?c" 330] 0, #[]⟩),
  (125, ⟨.type "tuple", .none, .seq #[] 0, #[]⟩),
  (127, ⟨.type "tuple", .none, .seq #[.str "term" 337, .str "env" 338] 0, #[]⟩),
  (128, ⟨.type "tuple", .none, .seq #[] 0, #[]⟩),
  (130, ⟨.type "code", .none, .fields #[.str "named_value" 334, .str "named_value" 335, .str "/claim/cut.py" 336, .int 50 0, .int 2 0, .int 0 0, .int 0 0, .int 3 0, .ref 125, .bool true, .int 181 0, .ref 126, .none, .ref 127, .ref 128, .ref 129, .int 339 0, .int 50 0, .str "/claim/cut.py" 340], #[]⟩),
  (131, ⟨.type "function", .none, .func (fd "named_value" "named_value" (s1 13) 3 [] .none .none .none (.str "alikeheap.theories" 326) .none (.ref 130) .none 0), #[]⟩),
  (139, ⟨.type "tuple", .none, .seq #[] 0, #[]⟩),
  (141, ⟨.type "tuple", .none, .seq #[.str "self" 357, .str "nil" 358] 0, #[]⟩),
  (142, ⟨.type "tuple", .none, .seq #[] 0, #[]⟩),
  (144, ⟨.type "code", .none, .fields #[.str "rules" 354, .str "Lists.rules" 355, .str "/claim/cut.py" 356, .int 56 0, .int 1 0, .int 0 0, .int 0 0, .int 3 0, .ref 139, .bool true, .int 181 0, .ref 140, .none, .ref 141, .ref 142, .ref 143, .int 359 0, .int 56 0, .str "/claim/cut.py" 360], #[]⟩),
  (145, ⟨.type "function", .none, .func (fd "rules" "Lists.rules" (s2 14 0) 3 [] .none .none .none (.str "alikeheap.theories" 326) .none (.ref 144) .none 0), #[]⟩),
  (146, ⟨.type "tuple", .none, .seq #[] 0, #[]⟩),
  (149, ⟨.type "code", .none, .fields #[.str "value" 362, .str "Lists.value" 363, .str "/claim/cut.py" 364, .int 60 0, .int 3 0, .int 0 0, .int 0 0, .int 3 0, .ref 146, .bool true, .int 181 0, .ref 147, .none, .none, .none, .ref 148, .int 365 0, .int 60 0, .str "/claim/cut.py" 366], #[]⟩),
  (150, ⟨.type "function", .none, .func (fd "value" "Lists.value" (s2 14 1) 3 [] .none .none .none (.str "alikeheap.theories" 326) .none (.ref 149) .none 0), #[]⟩),
  (151, ⟨.type "tuple", .none, .seq #[] 0, #[]⟩),
  (152, ⟨.type "dict", .none, .dict #[en P "__module__" 349 (.str "alikeheap.theories" 326), en P "__firstlineno__" 353 (.int 54 352), en P "rules" 361 (.ref 145), en P "value" 367 (.ref 150), en P "__static_attributes__" 368 (.ref 151), en P "__dict__" 370 (.ref 154), en P "__weakref__" 372 (.ref 155), en P "__doc__" 373 .none] 4, #[]⟩),
  (153, ⟨.type "type", .none, .cls ⟨"Lists", [.type "object"], [.ref 153, .type "object"], 152, "Lists", true, [], [], false, .none, false⟩, #[.none, .none, .some (.str "Lists" 342), .some (.str "Lists" 350), .some (.builtin "object.__new__"), .some (.bool true)]⟩),
  (154, ⟨.type "getset_descriptor", .none, .fields #[.str "__dict__" 369, .ref 153, .builtin "function.__dict__", .builtin "function.__dict__#set"], #[]⟩),
  (155, ⟨.type "getset_descriptor", .none, .fields #[.str "__weakref__" 371, .ref 153, .builtin "ExceptionGroup.__weakref__", .none], #[]⟩),
  (158, ⟨.type "tuple", .none, .seq #[] 0, #[]⟩),
  (160, ⟨.type "tuple", .none, .seq #[.str "tape" 381, .str "many" 382, .str "cells" 383, .str "spot" 384] 0, #[]⟩),
  (161, ⟨.type "tuple", .none, .seq #[] 0, #[]⟩),
  (163, ⟨.type "code", .none, .fields #[.str "_law_dip" 378, .str "_law_dip" 379, .str "/claim/cut.py" 380, .int 72 0, .int 2 0, .int 0 0, .int 0 0, .int 3 0, .ref 158, .bool true, .int 181 0, .ref 159, .none, .ref 160, .ref 161, .ref 162, .int 385 0, .int 72 0, .str "/claim/cut.py" 386], #[]⟩),
  (164, ⟨.type "function", .none, .func (fd "_law_dip" "_law_dip" (s1 16) 3 [] .none .none .none (.str "law_pq0033_01" 376) .none (.ref 163) .none 0), #[]⟩),
  (165, ⟨.type "tuple", .none, .seq #[] 0, #[]⟩),
  (168, ⟨.type "code", .none, .fields #[.str "_law_value" 388, .str "_law_value" 389, .str "/claim/cut.py" 390, .int 76 0, .int 2 0, .int 0 0, .int 0 0, .int 3 0, .ref 165, .bool true, .int 181 0, .ref 166, .none, .none, .none, .ref 167, .int 391 0, .int 76 0, .str "/claim/cut.py" 392], #[]⟩),
  (169, ⟨.type "function", .none, .func (fd "_law_value" "_law_value" (s1 17) 3 [] .none .none .none (.str "law_pq0033_01" 376) .none (.ref 168) .none 0), #[]⟩),
  (170, ⟨.type "tuple", .none, .seq #[] 0, #[]⟩),
  (172, ⟨.type "tuple", .none, .seq #[.str "theory" 397, .str "term" 398, .str "known" 399] 0, #[]⟩),
  (173, ⟨.type "tuple", .none, .seq #[] 0, #[]⟩),
  (175, ⟨.type "code", .none, .fields #[.str "_law_told" 394, .str "_law_told" 395, .str "/claim/cut.py" 396, .int 90 0, .int 3 0, .int 0 0, .int 0 0, .int 3 0, .ref 170, .bool true, .int 181 0, .ref 171, .none, .ref 172, .ref 173, .ref 174, .int 400 0, .int 90 0, .str "/claim/cut.py" 401], #[]⟩),
  (176, ⟨.type "function", .none, .func (fd "_law_told" "_law_told" (s1 18) 3 [] .none .none .none (.str "law_pq0033_01" 376) .none (.ref 175) .none 0), #[]⟩),
  (177, ⟨.type "tuple", .none, .seq #[] 0, #[]⟩),
  (179, ⟨.type "tuple", .none, .seq #[.str "term" 406, .str "is_element" 407, .str "found" 408, .str "k" 409, .str "kid" 410] 0, #[]⟩),
  (180, ⟨.type "tuple", .none, .seq #[] 0, #[]⟩),
  (182, ⟨.type "code", .none, .fields #[.str "_law_names" 403, .str "_law_names" 404, .str "/claim/cut.py" 405, .int 95 0, .int 2 0, .int 0 0, .int 0 0, .int 3 0, .ref 177, .bool true, .int 181 0, .ref 178, .none, .ref 179, .ref 180, .ref 181, .int 411 0, .int 95 0, .str "/claim/cut.py" 412], #[]⟩),
  (183, ⟨.type "function", .none, .func (fd "_law_names" "_law_names" (s1 19) 3 [] .none .none .none (.str "law_pq0033_01" 376) .none (.ref 182) .none 0), #[]⟩),
  (184, ⟨.type "tuple", .none, .seq #[] 0, #[]⟩),
  (187, ⟨.type "code", .none, .fields #[.str "_law_rule_right" 414, .str "_law_rule_right" 415, .str "/claim/cut.py" 416, .int 102 0, .int 4 0, .int 0 0, .int 0 0, .int 3 0, .ref 184, .bool true, .int 181 0, .ref 185, .none, .none, .none, .ref 186, .int 417 0, .int 102 0, .str "/claim/cut.py" 418], #[]⟩),
  (188, ⟨.type "function", .none, .func (fd "_law_rule_right" "_law_rule_right" (s1 20) 3 [] .none .none .none (.str "law_pq0033_01" 376) .none (.ref 187) .none 0), #[]⟩),
  (189, ⟨.type "tuple", .none, .seq #[] 0, #[]⟩),
  (191, ⟨.type "tuple", .none, .seq #[.str "tape" 423, .str "deep" 424, .str "way" 425, .str "kids" 426] 0, #[]⟩),
  (192, ⟨.type "tuple", .none, .seq #[] 0, #[]⟩),
  (194, ⟨.type "code", .none, .fields #[.str "_law_drawn" 420, .str "_law_drawn" 421, .str "/claim/cut.py" 422, .int 113 0, .int 2 0, .int 0 0, .int 0 0, .int 3 0, .ref 189, .bool true, .int 181 0, .ref 190, .none, .ref 191, .ref 192, .ref 193, .int 427 0, .int 113 0, .str "/claim/cut.py" 428], #[]⟩),
  (195, ⟨.type "function", .none, .func (fd "_law_drawn" "_law_drawn" (s1 21) 3 [] .none .none .none (.str "law_pq0033_01" 376) .none (.ref 194) .none 0), #[]⟩),
  (196, ⟨.type "tuple", .none, .seq #[] 0, #[]⟩),
  (198, ⟨.type "tuple", .none, .seq #[.str "tape" 433, .str "found" 434, .str "lap" 435] 0, #[]⟩),
  (199, ⟨.type "tuple", .none, .seq #[] 0, #[]⟩),
  (201, ⟨.type "code", .none, .fields #[.str "_law_short" 430, .str "_law_short" 431, .str "/claim/cut.py" 432, .int 122 0, .int 1 0, .int 0 0, .int 0 0, .int 3 0, .ref 196, .bool true, .int 181 0, .ref 197, .none, .ref 198, .ref 199, .ref 200, .int 436 0, .int 122 0, .str "/claim/cut.py" 437], #[]⟩),
  (202, ⟨.type "function", .none, .func (fd "_law_short" "_law_short" (s1 22) 3 [] .none .none .none (.str "law_pq0033_01" 376) .none (.ref 201) .none 0), #[]⟩),
  (203, ⟨.type "tuple", .none, .seq #[] 0, #[]⟩),
  (206, ⟨.type "code", .none, .fields #[.str "_law_met" 439, .str "_law_met" 440, .str "/claim/cut.py" 441, .int 127 0, .int 3 0, .int 0 0, .int 0 0, .int 3 0, .ref 203, .bool true, .int 181 0, .ref 204, .none, .none, .none, .ref 205, .int 442 0, .int 127 0, .str "/claim/cut.py" 443], #[]⟩),
  (207, ⟨.type "function", .none, .func (fd "_law_met" "_law_met" (s1 23) 3 [] .none .none .none (.str "law_pq0033_01" 376) .none (.ref 206) .none 0), #[]⟩),
  (208, ⟨.type "tuple", .none, .seq #[] 0, #[]⟩),
  (211, ⟨.type "code", .none, .fields #[.str "_law_put" 445, .str "_law_put" 446, .str "/claim/cut.py" 447, .int 133 0, .int 2 0, .int 0 0, .int 0 0, .int 3 0, .ref 208, .bool true, .int 181 0, .ref 209, .none, .none, .none, .ref 210, .int 448 0, .int 133 0, .str "/claim/cut.py" 449], #[]⟩),
  (212, ⟨.type "function", .none, .func (fd "_law_put" "_law_put" (s1 24) 3 [] .none .none .none (.str "law_pq0033_01" 376) .none (.ref 211) .none 0), #[]⟩),
  (213, ⟨.type "tuple", .none, .seq #[] 0, #[]⟩),
  (216, ⟨.type "code", .none, .fields #[.str "_law_turned" 451, .str "_law_turned" 452, .str "/claim/cut.py" 453, .int 137 0, .int 2 0, .int 0 0, .int 0 0, .int 3 0, .ref 213, .bool true, .int 181 0, .ref 214, .none, .none, .none, .ref 215, .int 454 0, .int 137 0, .str "/claim/cut.py" 455], #[]⟩),
  (217, ⟨.type "function", .none, .func (fd "_law_turned" "_law_turned" (s1 25) 3 [] .none .none .none (.str "law_pq0033_01" 376) .none (.ref 216) .none 0), #[]⟩),
  (218, ⟨.type "tuple", .none, .seq #[] 0, #[]⟩),
  (221, ⟨.type "code", .none, .fields #[.str "law" 457, .str "law" 458, .str "/claim/cut.py" 459, .int 144 0, .int 1 0, .int 0 0, .int 0 0, .int 3 0, .ref 218, .bool true, .int 181 0, .ref 219, .none, .none, .none, .ref 220, .int 460 0, .int 144 0, .str "/claim/cut.py" 461], #[]⟩),
  (222, ⟨.type "function", .none, .func (fd "law" "law" (s1 26) 3 [] .none .none .none (.str "law_pq0033_01" 376) .none (.ref 221) .none 0), #[]⟩)]
noncomputable def topAs : List Nat := [2,3,15,17,18,20,21,22,25,30,31,33,34,36,37,38,40,41,43,44,45,46,47,48,51,58,59,60,63,70,71,72,75,77,78,80,81,82,85,86,87,90,91,99,102,103,104,106,107,109,110,111,112,113,114,115,118,119,120,125,127,128,130,131,139,141,142,144,145,146,149,150,151,152,153,154,155,158,160,161,163,164,165,168,169,170,172,173,175,176,177,179,180,182,183,184,187,188,189,191,192,194,195,196,198,199,201,202,203,206,207,208,211,212,213,216,217,218,221,222]
noncomputable def topView : Program := { pw0 with main := { pw0.main with body := ([0, 2, 3, 4, 6, 7, 8, 10, 12, 13, 14, 16, 17, 18, 19, 20, 21, 22, 23, 24, 25, 26] : List Nat).map s1 } }
noncomputable abbrev topLv : List (PySem.Str × WData) := [(Str.ofString "A", WData.tuple [WData.str { cps := #[63, 97] }]), (Str.ofString "B", WData.tuple [WData.str { cps := #[63, 98] }]), (Str.ofString "C", WData.tuple [WData.str { cps := #[63, 99] }])]
noncomputable abbrev topLoose : List Str := [Str.ofString "A", Str.ofString "B", Str.ofString "C"]
theorem said : PySem.Challenge.rw_pq0033_01.wellSaid = true := by kernel_rfl
theorem asK (P : Params) : topAs = (topK P).map (·.1) := by kernel_rfl
noncomputable abbrev topHook : Hook := kHook topK topAs asK
noncomputable abbrev topXt (s : Shared) : Bool := xlAt topView topLv s && recOk (RowW.records PySem.Challenge.rw_pq0033_01.row.toRowW) s
theorem opens (w : World) : (fencedOpening treeTable PySem.Challenge.rw_pq0033_01.row.prog w 3708).map (fun s => (s.heap, s.gens, s.drawn, s.toks)) = some (boot_heap w.params, Array.mk [], boot_drawn, boot_toks) := boot_open rfl (by decide) (fun _ => rfl) w
theorem leftF (w : World) (os : OsState) : (topFrom treeTable PySem.Challenge.rw_pq0033_01.row.prog (w.withFollow "special-get-raises" false) 3708 ⟨boot_heap w.params, Array.mk [], boot_drawn, boot_toks, os⟩).map (fun s => (openSeen topView topLoose (importedModules PySem.Challenge.rw_pq0033_01.row.prog.main.body) topXt true s, topHook.obs s)) =
    some (openGood topView topLoose, topHook.val (w.withFollow "special-get-raises" false)) := by kernel_rfl
theorem leftT (w : World) (os : OsState) : (topFrom treeTable PySem.Challenge.rw_pq0033_01.row.prog (w.withFollow "special-get-raises" true) 3708 ⟨boot_heap w.params, Array.mk [], boot_drawn, boot_toks, os⟩).map (fun s => (openSeen topView topLoose (importedModules PySem.Challenge.rw_pq0033_01.row.prog.main.body) topXt true s, topHook.obs s)) =
    some (openGood topView topLoose, topHook.val (w.withFollow "special-get-raises" true)) := by kernel_rfl
theorem left : LeftO PySem.Challenge.rw_pq0033_01.row.prog topView topLoose topXt topHook.obs topHook.val 3708 true :=
  LeftO.of_split "special-get-raises" fun w => by
    obtain ⟨⟨h, gs, d, k, os⟩, e, e'⟩ := Option.map_eq_some_iff.mp (opens w)
    simp only [Prod.mk.injEq] at e'
    obtain ⟨rfl, rfl, rfl, rfl⟩ := e'
    rw [e]
    exact congrArg some (Prod.ext (leftF w os) (leftT w os))
end Mine
end
section
open PySem PySem.W PyProof.Rows PySem.Calls PySem.Spec PyProof.V
set_option maxHeartbeats 1000000
namespace Mine
/-! what is of several parts, taken apart at once -/
theorem ea0_2  {A0 A1 : Prop} {Q : Prop} (h : A0 ∧ A1) (f : A0 → A1 → Q) : Q := f h.1 h.2
theorem ea0_3  {A0 A1 A2 : Prop} {Q : Prop} (h : A0 ∧ A1 ∧ A2) (f : A0 → A1 → A2 → Q) : Q := f h.1 h.2.1 h.2.2
theorem ea0_4  {A0 A1 A2 A3 : Prop} {Q : Prop} (h : A0 ∧ A1 ∧ A2 ∧ A3) (f : A0 → A1 → A2 → A3 → Q) : Q := f h.1 h.2.1 h.2.2.1 h.2.2.2
theorem ea1_1 {α0 : Sort _} {A0 : α0 → Prop} {Q : Prop} (h : ∃ x0, A0 x0) (f : ∀ x0, A0 x0 → Q) : Q := h.elim fun x0 h0 => f x0 h0
theorem ea1_2 {α0 : Sort _} {A0 A1 : α0 → Prop} {Q : Prop} (h : ∃ x0, A0 x0 ∧ A1 x0) (f : ∀ x0, A0 x0 → A1 x0 → Q) : Q := h.elim fun x0 h0 => f x0 h0.1 h0.2
theorem ea1_3 {α0 : Sort _} {A0 A1 A2 : α0 → Prop} {Q : Prop} (h : ∃ x0, A0 x0 ∧ A1 x0 ∧ A2 x0) (f : ∀ x0, A0 x0 → A1 x0 → A2 x0 → Q) : Q := h.elim fun x0 h0 => f x0 h0.1 h0.2.1 h0.2.2
theorem ea1_4 {α0 : Sort _} {A0 A1 A2 A3 : α0 → Prop} {Q : Prop} (h : ∃ x0, A0 x0 ∧ A1 x0 ∧ A2 x0 ∧ A3 x0) (f : ∀ x0, A0 x0 → A1 x0 → A2 x0 → A3 x0 → Q) : Q := h.elim fun x0 h0 => f x0 h0.1 h0.2.1 h0.2.2.1 h0.2.2.2
theorem ea1_5 {α0 : Sort _} {A0 A1 A2 A3 A4 : α0 → Prop} {Q : Prop} (h : ∃ x0, A0 x0 ∧ A1 x0 ∧ A2 x0 ∧ A3 x0 ∧ A4 x0) (f : ∀ x0, A0 x0 → A1 x0 → A2 x0 → A3 x0 → A4 x0 → Q) : Q := h.elim fun x0 h0 => f x0 h0.1 h0.2.1 h0.2.2.1 h0.2.2.2.1 h0.2.2.2.2
theorem ea1_6 {α0 : Sort _} {A0 A1 A2 A3 A4 A5 : α0 → Prop} {Q : Prop} (h : ∃ x0, A0 x0 ∧ A1 x0 ∧ A2 x0 ∧ A3 x0 ∧ A4 x0 ∧ A5 x0) (f : ∀ x0, A0 x0 → A1 x0 → A2 x0 → A3 x0 → A4 x0 → A5 x0 → Q) : Q := h.elim fun x0 h0 => f x0 h0.1 h0.2.1 h0.2.2.1 h0.2.2.2.1 h0.2.2.2.2.1 h0.2.2.2.2.2
theorem ea1_7 {α0 : Sort _} {A0 A1 A2 A3 A4 A5 A6 : α0 → Prop} {Q : Prop} (h : ∃ x0, A0 x0 ∧ A1 x0 ∧ A2 x0 ∧ A3 x0 ∧ A4 x0 ∧ A5 x0 ∧ A6 x0) (f : ∀ x0, A0 x0 → A1 x0 → A2 x0 → A3 x0 → A4 x0 → A5 x0 → A6 x0 → Q) : Q := h.elim fun x0 h0 => f x0 h0.1 h0.2.1 h0.2.2.1 h0.2.2.2.1 h0.2.2.2.2.1 h0.2.2.2.2.2.1 h0.2.2.2.2.2.2
theorem ea2_1 {α0 : Sort _} {α1 : Sort _} {A0 : α0 → α1 → Prop} {Q : Prop} (h : ∃ x0 x1, A0 x0 x1) (f : ∀ x0 x1, A0 x0 x1 → Q) : Q := h.elim fun x0 h0 => h0.elim fun x1 h1 => f x0 x1 h1
theorem ea2_2 {α0 : Sort _} {α1 : Sort _} {A0 A1 : α0 → α1 → Prop} {Q : Prop} (h : ∃ x0 x1, A0 x0 x1 ∧ A1 x0 x1) (f : ∀ x0 x1, A0 x0 x1 → A1 x0 x1 → Q) : Q := h.elim fun x0 h0 => h0.elim fun x1 h1 => f x0 x1 h1.1 h1.2
theorem ea2_3 {α0 : Sort _} {α1 : Sort _} {A0 A1 A2 : α0 → α1 → Prop} {Q : Prop} (h : ∃ x0 x1, A0 x0 x1 ∧ A1 x0 x1 ∧ A2 x0 x1) (f : ∀ x0 x1, A0 x0 x1 → A1 x0 x1 → A2 x0 x1 → Q) : Q := h.elim fun x0 h0 => h0.elim fun x1 h1 => f x0 x1 h1.1 h1.2.1 h1.2.2
theorem ea2_4 {α0 : Sort _} {α1 : Sort _} {A0 A1 A2 A3 : α0 → α1 → Prop} {Q : Prop} (h : ∃ x0 x1, A0 x0 x1 ∧ A1 x0 x1 ∧ A2 x0 x1 ∧ A3 x0 x1) (f : ∀ x0 x1, A0 x0 x1 → A1 x0 x1 → A2 x0 x1 → A3 x0 x1 → Q) : Q := h.elim fun x0 h0 => h0.elim fun x1 h1 => f x0 x1 h1.1 h1.2.1 h1.2.2.1 h1.2.2.2
theorem ea2_5 {α0 : Sort _} {α1 : Sort _} {A0 A1 A2 A3 A4 : α0 → α1 → Prop} {Q : Prop} (h : ∃ x0 x1, A0 x0 x1 ∧ A1 x0 x1 ∧ A2 x0 x1 ∧ A3 x0 x1 ∧ A4 x0 x1) (f : ∀ x0 x1, A0 x0 x1 → A1 x0 x1 → A2 x0 x1 → A3 x0 x1 → A4 x0 x1 → Q) : Q := h.elim fun x0 h0 => h0.elim fun x1 h1 => f x0 x1 h1.1 h1.2.1 h1.2.2.1 h1.2.2.2.1 h1.2.2.2.2
theorem ea2_6 {α0 : Sort _} {α1 : Sort _} {A0 A1 A2 A3 A4 A5 : α0 → α1 → Prop} {Q : Prop} (h : ∃ x0 x1, A0 x0 x1 ∧ A1 x0 x1 ∧ A2 x0 x1 ∧ A3 x0 x1 ∧ A4 x0 x1 ∧ A5 x0 x1) (f : ∀ x0 x1, A0 x0 x1 → A1 x0 x1 → A2 x0 x1 → A3 x0 x1 → A4 x0 x1 → A5 x0 x1 → Q) : Q := h.elim fun x0 h0 => h0.elim fun x1 h1 => f x0 x1 h1.1 h1.2.1 h1.2.2.1 h1.2.2.2.1 h1.2.2.2.2.1 h1.2.2.2.2.2
theorem ea2_7 {α0 : Sort _} {α1 : Sort _} {A0 A1 A2 A3 A4 A5 A6 : α0 → α1 → Prop} {Q : Prop} (h : ∃ x0 x1, A0 x0 x1 ∧ A1 x0 x1 ∧ A2 x0 x1 ∧ A3 x0 x1 ∧ A4 x0 x1 ∧ A5 x0 x1 ∧ A6 x0 x1) (f : ∀ x0 x1, A0 x0 x1 → A1 x0 x1 → A2 x0 x1 → A3 x0 x1 → A4 x0 x1 → A5 x0 x1 → A6 x0 x1 → Q) : Q := h.elim fun x0 h0 => h0.elim fun x1 h1 => f x0 x1 h1.1 h1.2.1 h1.2.2.1 h1.2.2.2.1 h1.2.2.2.2.1 h1.2.2.2.2.2.1 h1.2.2.2.2.2.2
theorem ea3_1 {α0 : Sort _} {α1 : Sort _} {α2 : Sort _} {A0 : α0 → α1 → α2 → Prop} {Q : Prop} (h : ∃ x0 x1 x2, A0 x0 x1 x2) (f : ∀ x0 x1 x2, A0 x0 x1 x2 → Q) : Q := h.elim fun x0 h0 => h0.elim fun x1 h1 => h1.elim fun x2 h2 => f x0 x1 x2 h2
theorem ea3_2 {α0 : Sort _} {α1 : Sort _} {α2 : Sort _} {A0 A1 : α0 → α1 → α2 → Prop} {Q : Prop} (h : ∃ x0 x1 x2, A0 x0 x1 x2 ∧ A1 x0 x1 x2) (f : ∀ x0 x1 x2, A0 x0 x1 x2 → A1 x0 x1 x2 → Q) : Q := h.elim fun x0 h0 => h0.elim fun x1 h1 => h1.elim fun x2 h2 => f x0 x1 x2 h2.1 h2.2
theorem ea3_3 {α0 : Sort _} {α1 : Sort _} {α2 : Sort _} {A0 A1 A2 : α0 → α1 → α2 → Prop} {Q : Prop} (h : ∃ x0 x1 x2, A0 x0 x1 x2 ∧ A1 x0 x1 x2 ∧ A2 x0 x1 x2) (f : ∀ x0 x1 x2, A0 x0 x1 x2 → A1 x0 x1 x2 → A2 x0 x1 x2 → Q) : Q := h.elim fun x0 h0 => h0.elim fun x1 h1 => h1.elim fun x2 h2 => f x0 x1 x2 h2.1 h2.2.1 h2.2.2
theorem ea3_4 {α0 : Sort _} {α1 : Sort _} {α2 : Sort _} {A0 A1 A2 A3 : α0 → α1 → α2 → Prop} {Q : Prop} (h : ∃ x0 x1 x2, A0 x0 x1 x2 ∧ A1 x0 x1 x2 ∧ A2 x0 x1 x2 ∧ A3 x0 x1 x2) (f : ∀ x0 x1 x2, A0 x0 x1 x2 → A1 x0 x1 x2 → A2 x0 x1 x2 → A3 x0 x1 x2 → Q) : Q := h.elim fun x0 h0 => h0.elim fun x1 h1 => h1.elim fun x2 h2 => f x0 x1 x2 h2.1 h2.2.1 h2.2.2.1 h2.2.2.2
theorem ea3_5 {α0 : Sort _} {α1 : Sort _} {α2 : Sort _} {A0 A1 A2 A3 A4 : α0 → α1 → α2 → Prop} {Q : Prop} (h : ∃ x0 x1 x2, A0 x0 x1 x2 ∧ A1 x0 x1 x2 ∧ A2 x0 x1 x2 ∧ A3 x0 x1 x2 ∧ A4 x0 x1 x2) (f : ∀ x0 x1 x2, A0 x0 x1 x2 → A1 x0 x1 x2 → A2 x0 x1 x2 → A3 x0 x1 x2 → A4 x0 x1 x2 → Q) : Q := h.elim fun x0 h0 => h0.elim fun x1 h1 => h1.elim fun x2 h2 => f x0 x1 x2 h2.1 h2.2.1 h2.2.2.1 h2.2.2.2.1 h2.2.2.2.2
theorem ea4_1 {α0 : Sort _} {α1 : Sort _} {α2 : Sort _} {α3 : Sort _} {A0 : α0 → α1 → α2 → α3 → Prop} {Q : Prop} (h : ∃ x0 x1 x2 x3, A0 x0 x1 x2 x3) (f : ∀ x0 x1 x2 x3, A0 x0 x1 x2 x3 → Q) : Q := h.elim fun x0 h0 => h0.elim fun x1 h1 => h1.elim fun x2 h2 => h2.elim fun x3 h3 => f x0 x1 x2 x3 h3
theorem ea4_2 {α0 : Sort _} {α1 : Sort _} {α2 : Sort _} {α3 : Sort _} {A0 A1 : α0 → α1 → α2 → α3 → Prop} {Q : Prop} (h : ∃ x0 x1 x2 x3, A0 x0 x1 x2 x3 ∧ A1 x0 x1 x2 x3) (f : ∀ x0 x1 x2 x3, A0 x0 x1 x2 x3 → A1 x0 x1 x2 x3 → Q) : Q := h.elim fun x0 h0 => h0.elim fun x1 h1 => h1.elim fun x2 h2 => h2.elim fun x3 h3 => f x0 x1 x2 x3 h3.1 h3.2
theorem ea4_10 {α0 : Sort _} {α1 : Sort _} {α2 : Sort _} {α3 : Sort _} {A0 A1 A2 A3 A4 A5 A6 A7 A8 A9 : α0 → α1 → α2 → α3 → Prop} {Q : Prop} (h : ∃ x0 x1 x2 x3, A0 x0 x1 x2 x3 ∧ A1 x0 x1 x2 x3 ∧ A2 x0 x1 x2 x3 ∧ A3 x0 x1 x2 x3 ∧ A4 x0 x1 x2 x3 ∧ A5 x0 x1 x2 x3 ∧ A6 x0 x1 x2 x3 ∧ A7 x0 x1 x2 x3 ∧ A8 x0 x1 x2 x3 ∧ A9 x0 x1 x2 x3) (f : ∀ x0 x1 x2 x3, A0 x0 x1 x2 x3 → A1 x0 x1 x2 x3 → A2 x0 x1 x2 x3 → A3 x0 x1 x2 x3 → A4 x0 x1 x2 x3 → A5 x0 x1 x2 x3 → A6 x0 x1 x2 x3 → A7 x0 x1 x2 x3 → A8 x0 x1 x2 x3 → A9 x0 x1 x2 x3 → Q) : Q := h.elim fun x0 h0 => h0.elim fun x1 h1 => h1.elim fun x2 h2 => h2.elim fun x3 h3 => f x0 x1 x2 x3 h3.1 h3.2.1 h3.2.2.1 h3.2.2.2.1 h3.2.2.2.2.1 h3.2.2.2.2.2.1 h3.2.2.2.2.2.2.1 h3.2.2.2.2.2.2.2.1 h3.2.2.2.2.2.2.2.2.1 h3.2.2.2.2.2.2.2.2.2
theorem ea5_1 {α0 : Sort _} {α1 : Sort _} {α2 : Sort _} {α3 : Sort _} {α4 : Sort _} {A0 : α0 → α1 → α2 → α3 → α4 → Prop} {Q : Prop} (h : ∃ x0 x1 x2 x3 x4, A0 x0 x1 x2 x3 x4) (f : ∀ x0 x1 x2 x3 x4, A0 x0 x1 x2 x3 x4 → Q) : Q := h.elim fun x0 h0 => h0.elim fun x1 h1 => h1.elim fun x2 h2 => h2.elim fun x3 h3 => h3.elim fun x4 h4 => f x0 x1 x2 x3 x4 h4
theorem ea5_2 {α0 : Sort _} {α1 : Sort _} {α2 : Sort _} {α3 : Sort _} {α4 : Sort _} {A0 A1 : α0 → α1 → α2 → α3 → α4 → Prop} {Q : Prop} (h : ∃ x0 x1 x2 x3 x4, A0 x0 x1 x2 x3 x4 ∧ A1 x0 x1 x2 x3 x4) (f : ∀ x0 x1 x2 x3 x4, A0 x0 x1 x2 x3 x4 → A1 x0 x1 x2 x3 x4 → Q) : Q := h.elim fun x0 h0 => h0.elim fun x1 h1 => h1.elim fun x2 h2 => h2.elim fun x3 h3 => h3.elim fun x4 h4 => f x0 x1 x2 x3 x4 h4.1 h4.2
theorem ea5_5 {α0 : Sort _} {α1 : Sort _} {α2 : Sort _} {α3 : Sort _} {α4 : Sort _} {A0 A1 A2 A3 A4 : α0 → α1 → α2 → α3 → α4 → Prop} {Q : Prop} (h : ∃ x0 x1 x2 x3 x4, A0 x0 x1 x2 x3 x4 ∧ A1 x0 x1 x2 x3 x4 ∧ A2 x0 x1 x2 x3 x4 ∧ A3 x0 x1 x2 x3 x4 ∧ A4 x0 x1 x2 x3 x4) (f : ∀ x0 x1 x2 x3 x4, A0 x0 x1 x2 x3 x4 → A1 x0 x1 x2 x3 x4 → A2 x0 x1 x2 x3 x4 → A3 x0 x1 x2 x3 x4 → A4 x0 x1 x2 x3 x4 → Q) : Q := h.elim fun x0 h0 => h0.elim fun x1 h1 => h1.elim fun x2 h2 => h2.elim fun x3 h3 => h3.elim fun x4 h4 => f x0 x1 x2 x3 x4 h4.1 h4.2.1 h4.2.2.1 h4.2.2.2.1 h4.2.2.2.2
theorem ea5_9 {α0 : Sort _} {α1 : Sort _} {α2 : Sort _} {α3 : Sort _} {α4 : Sort _} {A0 A1 A2 A3 A4 A5 A6 A7 A8 : α0 → α1 → α2 → α3 → α4 → Prop} {Q : Prop} (h : ∃ x0 x1 x2 x3 x4, A0 x0 x1 x2 x3 x4 ∧ A1 x0 x1 x2 x3 x4 ∧ A2 x0 x1 x2 x3 x4 ∧ A3 x0 x1 x2 x3 x4 ∧ A4 x0 x1 x2 x3 x4 ∧ A5 x0 x1 x2 x3 x4 ∧ A6 x0 x1 x2 x3 x4 ∧ A7 x0 x1 x2 x3 x4 ∧ A8 x0 x1 x2 x3 x4) (f : ∀ x0 x1 x2 x3 x4, A0 x0 x1 x2 x3 x4 → A1 x0 x1 x2 x3 x4 → A2 x0 x1 x2 x3 x4 → A3 x0 x1 x2 x3 x4 → A4 x0 x1 x2 x3 x4 → A5 x0 x1 x2 x3 x4 → A6 x0 x1 x2 x3 x4 → A7 x0 x1 x2 x3 x4 → A8 x0 x1 x2 x3 x4 → Q) : Q := h.elim fun x0 h0 => h0.elim fun x1 h1 => h1.elim fun x2 h2 => h2.elim fun x3 h3 => h3.elim fun x4 h4 => f x0 x1 x2 x3 x4 h4.1 h4.2.1 h4.2.2.1 h4.2.2.2.1 h4.2.2.2.2.1 h4.2.2.2.2.2.1 h4.2.2.2.2.2.2.1 h4.2.2.2.2.2.2.2.1 h4.2.2.2.2.2.2.2.2

/-- abstract values: data by what they say, anything else as it is -/
inductive AV where
  | none
  | bool (b : Bool)
  | int (i : Int)
  | str (x : Str)
  | tup (l : List AV)
  | val (v : Value)

mutual
inductive Rv (h : Heap) : Value → AV → Prop
  | none : Rv h .none .none
  | bool (b : Bool) : Rv h (.bool b) (.bool b)
  | int (i : Int) (t : Tok) : Rv h (.int i t) (.int i)
  | str (x : Str) (t : Tok) : Rv h (.str x t) (.str x)
  | tup {a : Addr} {vs : List Value} {l : List AV} : IsTup h a vs.toArray → RvAll h vs l → Rv h (.ref a) (.tup l)
  | val (v : Value) : Rv h v (.val v)
inductive RvAll (h : Heap) : List Value → List AV → Prop
  | nil : RvAll h [] []
  | cons {v : Value} {vs : List Value} {d : AV} {ds : List AV} : Rv h v d → RvAll h vs ds → RvAll h (v :: vs) (d :: ds)
end
/-- the tuples stay -/
noncomputable def Tk (h h' : Heap) : Prop := ∀ a vs, IsTup h a vs → IsTup h' a vs
theorem Tk.refl (h : Heap) : Tk h h := fun _ _ x => x
theorem Tk.trans {h h' h'' : Heap} (x : Tk h h') (y : Tk h' h'') : Tk h h'' := fun a vs z => y a vs (x a vs z)
theorem Tk.of_keep {h h' : Heap} (k : ∀ b o, h.get? b = some o → h'.get? b = some o) : Tk h h' := fun a _ ⟨o, e, r⟩ => ⟨o, k a o e, r⟩
theorem IsTup.ne {h : Heap} {a b : Addr} {vs : Array Value} (x : IsTup h a vs) {o : Obj} (e : h.get? b = some o) (n : ∀ vs n, o.data ≠ .seq vs n ∨ o.cls ≠ .type "tuple") : a ≠ b := fun q => by
  subst q; refine ea1_3 x fun o' e' c zq1 => ?_; try clear x; refine ea1_1 zq1 fun k d => ?_; clear zq1; rw [e] at e'; cases e'
  rcases n vs k with h | h
  · exact h d
  · exact h c
theorem Rv.mono {h h' : Heap} (k : Tk h h') {v : Value} {d : AV} (r : Rv h v d) : Rv h' v d :=
  Rv.rec (motive_1 := fun v d _ => Rv h' v d) (motive_2 := fun vs ds _ => RvAll h' vs ds) .none .bool .int .str (fun n _ i => .tup (k _ _ n) i) .val .nil (fun _ _ i j => .cons i j) r
theorem RvAll.mono {h h' : Heap} (k : Tk h h') {vs : List Value} {ds : List AV} (r : RvAll h vs ds) : RvAll h' vs ds :=
  RvAll.rec (motive_1 := fun v d _ => Rv h' v d) (motive_2 := fun vs ds _ => RvAll h' vs ds) .none .bool .int .str (fun n _ i => .tup (k _ _ n) i) .val .nil (fun _ _ i j => .cons i j) r
section
variable {h : Heap}
theorem Rv.eVal {u : Value} {v : Value} (r : Rv h v (.val u)) {P : Value → Prop} (k : P u) : P v := by cases r; exact k
theorem Rv.eInt {u : Int} {v : Value} (r : Rv h v (.int u)) {P : Value → Prop} (k : ∀ t, P (.int u t)) : P v := by cases r; exact k _
theorem Rv.eStr {u : Str} {v : Value} (r : Rv h v (.str u)) {P : Value → Prop} (k : ∀ t, P (.str u t)) : P v := by cases r; exact k _
theorem Rv.eBool {u : Bool} {v : Value} (r : Rv h v (.bool u)) {P : Value → Prop} (k : P (.bool u)) : P v := by cases r; exact k
theorem Rv.eTup {l : List AV} {v : Value} (r : Rv h v (.tup l)) {P : Value → Prop} (k : ∀ a vs, IsTup h a vs.toArray → RvAll h vs l → P (.ref a)) : P v := by
  cases r with | tup t r => exact k _ _ t r
theorem RvAll.e0 {vs : List Value} (r : RvAll h vs []) {P : List Value → Prop} (k : P []) : P vs := by cases r; exact k
theorem RvAll.eC {a : AV} {l : List AV} {vs : List Value} (r : RvAll h vs (a :: l)) {P : List Value → Prop} (k : ∀ x xs, Rv h x a → RvAll h xs l → P (x :: xs)) : P vs := by
  cases r with | cons r r' => exact k _ _ r r'
theorem RvAll.e1 {a : AV} {vs : List Value} (r : RvAll h vs [a]) {P : List Value → Prop} (k : ∀ x, Rv h x a → P [x]) : P vs :=
  RvAll.eC r (P := P) fun x _ r r' => RvAll.e0 r' (P := fun l => P (x :: l)) (k x r)
theorem RvAll.e2 {a b : AV} {vs : List Value} (r : RvAll h vs [a, b]) {P : List Value → Prop} (k : ∀ x y, Rv h x a → Rv h y b → P [x, y]) : P vs :=
  RvAll.eC r (P := P) fun x _ r r' => RvAll.e1 r' (P := fun l => P (x :: l)) fun y r' => k x y r r'
theorem RvAll.e3 {a b d : AV} {vs : List Value} (r : RvAll h vs [a, b, d]) {P : List Value → Prop} (k : ∀ x y z, Rv h x a → Rv h y b → Rv h z d → P [x, y, z]) : P vs :=
  RvAll.eC r (P := P) fun x _ r r' => RvAll.e2 r' (P := fun l => P (x :: l)) fun y z r' r'' => k x y z r r' r''
end
section
variable {h : Heap}
theorem RvAll.length {vs : List Value} {ds : List AV} (r : RvAll h vs ds) : vs.length = ds.length := by
  induction vs generalizing ds with
  | nil => cases r; rfl
  | cons v vs ih => cases r with | cons _ r => rw [List.length_cons, List.length_cons, ih r]
theorem RvAll.append {vs ws : List Value} {ds es : List AV} (r : RvAll h vs ds) (k : RvAll h ws es) : RvAll h (vs ++ ws) (ds ++ es) := by
  induction vs generalizing ds with
  | nil => cases r; exact k
  | cons v vs ih => cases r with | cons r r' => exact .cons r (ih r')
theorem RvAll.reverse {vs : List Value} {ds : List AV} (r : RvAll h vs ds) : RvAll h vs.reverse ds.reverse := by
  induction vs generalizing ds with
  | nil => cases r; exact .nil
  | cons v vs ih =>
    cases r with
    | cons r r' => rw [List.reverse_cons, List.reverse_cons]; exact (ih r').append (.cons r .nil)
theorem RvAll.drop {vs : List Value} {ds : List AV} (r : RvAll h vs ds) : ∀ n, RvAll h (vs.drop n) (ds.drop n) := by
  induction vs generalizing ds with
  | nil => cases r; intro n; simp only [List.drop_nil]; exact .nil
  | cons v vs ih =>
    cases r with
    | cons r r' => intro n; cases n with
      | zero => exact .cons r r'
      | succ n => exact ih r' n
theorem RvAll.take {vs : List Value} {ds : List AV} (r : RvAll h vs ds) : ∀ n, RvAll h (vs.take n) (ds.take n) := by
  induction vs generalizing ds with
  | nil => cases r; intro n; simp only [List.take_nil]; exact .nil
  | cons v vs ih =>
    cases r with
    | cons r r' => intro n; cases n with
      | zero => exact .nil
      | succ n => exact .cons r (ih r' n)
theorem RvAll.get {vs : List Value} {ds : List AV} (r : RvAll h vs ds) : ∀ {n : Nat} {d : AV}, ds[n]? = some d → ∃ v, vs[n]? = some v ∧ Rv h v d := by
  induction vs generalizing ds with
  | nil => cases r; intro n d e; simp at e
  | cons v vs ih =>
    cases r with
    | cons r r' => intro n d e; cases n with
      | zero => simp only [List.getElem?_cons_zero, Option.some.injEq] at e ⊢; subst e; exact ⟨v, rfl, r⟩
      | succ n => simp only [List.getElem?_cons_succ] at e ⊢; exact ih r' e
theorem RvAll.get' {vs : List Value} {ds : List AV} (r : RvAll h vs ds) : ∀ {n : Nat} {v : Value}, vs[n]? = some v → ∃ d, ds[n]? = some d ∧ Rv h v d := by
  induction vs generalizing ds with
  | nil => cases r; intro n d e; simp at e
  | cons v vs ih =>
    cases r with
    | cons r r' => intro n d e; cases n with
      | zero => simp only [List.getElem?_cons_zero, Option.some.injEq] at e ⊢; subst e; exact ⟨_, rfl, r⟩
      | succ n => simp only [List.getElem?_cons_succ] at e ⊢; exact ih r' e
end

noncomputable abbrev Locals := List (Str × AV)
inductive AObj where
  | list (l : List AV)
  | dict (l : List (Str × AV))
  | flds (l : List (Str × AV))
  | raw (o : Obj)
  | itT (l : List AV)
  | set (xs : List Str) (n : Nat)
noncomputable abbrev Store := List (Addr × AObj)

structure Cx where
  prog : Program
  w : World
  p : Program
  loose : List Str
  mean : ExcName → Option Value
  mg : Str → Option Value
  mb : Str → Option Value
  K : Frag

/-- the frame of a call -/
structure Fx where
  dp : Nat
  un : Nat
  gd : Option (List Code)
  cn : Str
  cs : Scope
  L : Addr
  a : Addr
  ccd : Value
  outer : List Env
  h₀ : Heap
  base : Heap
  A₀ : Around
/-- what of a frame is not of the function -/
structure Fg where
  dp : Nat
  un : Nat
  gd : Option (List Code)
  L : Addr
  outer : List Env
  h₀ : Heap
  base : Heap
  A₀ : Around
noncomputable def Fx.of (cn : Str) (cs : Scope) (a : Addr) (ccd : Value) (g : Fg) : Fx := ⟨g.dp, g.un, g.gd, cn, cs, g.L, a, ccd, g.outer, g.h₀, g.base, g.A₀⟩
noncomputable def Fx.env (f : Fx) : Env := envOfC f.cn f.cs f.L f.a f.ccd
noncomputable def Fx.A (f : Fx) : Around := { handled := none, depth := f.dp, frames := some (f.env :: f.outer), guards := f.gd, units := f.un }

structure FOk (c : Cx) (f : Fx) (n : Nat) : Prop where
  B : Below f.A₀ f.base f.outer f.h₀
  X : c.K.In f.h₀
  T : Top c.p c.loose c.mean c.mg c.mb f.h₀
  hk : f.cs.kind = .function
  hd : f.dp + n < 900
  hu : f.un + 8 * n + 1000 < 9000
theorem FOk.le {c : Cx} {f : Fx} {n k : Nat} (x : FOk c f n) (h : k ≤ n) : FOk c f k := ⟨x.B, x.X, x.T, x.hk, by have := x.hd; lia, by have := x.hu; lia⟩

noncomputable def RvKvs (h : Heap) : List (Str × Value) → List (Str × AV) → Prop
  | [], [] => True
  | (x, v) :: r, (y, d) :: r' => x = y ∧ Rv h v d ∧ RvKvs h r r'
  | _, _ => False
theorem RvKvs.ind {h : Heap} {P : List (Str × Value) → List (Str × AV) → Prop} (h0 : P [] []) (h1 : ∀ x v r d l, Rv h v d → RvKvs h r l → P r l → P ((x, v) :: r) ((x, d) :: l)) {a : List (Str × Value)} : ∀ {b : List (Str × AV)}, RvKvs h a b → P a b := by
  induction a with
  | nil => intro b k; cases b with
    | nil => exact h0
    | cons p l => exact False.elim k
  | cons p r ih => intro b k; cases b with
    | nil => exact False.elim k
    | cons q l => exact (show p = (q.1, p.2) from Prod.ext k.1 rfl) ▸ h1 _ _ _ _ _ k.2.1 k.2.2 (ih k.2.2)
theorem RvKvs.mono {h h' : Heap} (k : Tk h h') {a : List (Str × Value)} {b : List (Str × AV)} (r : RvKvs h a b) : RvKvs h' a b :=
  RvKvs.ind (P := RvKvs h') trivial (fun _ _ _ _ _ r _ i => ⟨rfl, r.mono k, i⟩) r
noncomputable def Flds (h : Heap) : List DictEntry → List (Str × AV) → Prop
  | [], [] => True
  | e :: r, (y, d) :: r' => (∃ t, e.key = .str y t) ∧ Rv h e.val d ∧ Flds h r r'
  | _, _ => False
theorem Flds.ind {h : Heap} {P : List DictEntry → List (Str × AV) → Prop} (h0 : P [] []) (h1 : ∀ e r y d l t, e.key = .str y t → Rv h e.val d → Flds h r l → P r l → P (e :: r) ((y, d) :: l)) {a : List DictEntry} : ∀ {b : List (Str × AV)}, Flds h a b → P a b := by
  induction a with
  | nil => intro b k; cases b with
    | nil => exact h0
    | cons p l => exact False.elim k
  | cons p r ih => intro b k; cases b with
    | nil => exact False.elim k
    | cons q l => exact ea1_1 k.1 fun t e => h1 p r q.1 q.2 l t e k.2.1 k.2.2 (ih k.2.2)
theorem Flds.mono {h h' : Heap} (k : Tk h h') {a : List DictEntry} {b : List (Str × AV)} (r : Flds h a b) : Flds h' a b :=
  Flds.ind (P := Flds h') trivial (fun _ _ _ _ _ t e r _ i => ⟨⟨t, e⟩, r.mono k, i⟩) r
inductive ConcL (h : Heap) (o : Obj) (l : List AV) : Prop
  | mk (vs : List Value) (n : Nat) (e : o = listOf vs.toArray n) (r : RvAll h vs l)
inductive ConcD (c : Cx) (h : Heap) (o : Obj) (l : List (Str × AV)) : Prop
  | mk (kvs : List (Str × Value)) (e : o.IsDictOf (PySem.strKind c.prog c.w) kvs) (r : RvKvs h kvs l)
inductive ConcF (h : Heap) (o : Obj) (l : List (Str × AV)) : Prop
  | mk (es : List DictEntry) (n : Nat) (e : o = dictOf es n) (r : Flds h es l)
inductive ConcI (h : Heap) (o : Obj) (l : List AV) : Prop
  | mk (t : Addr) (vs : List Value) (e : o = { cls := .type "tuple_iterator", dict := none, data := .fields #[.ref t, .int 0 0], slots := #[] }) (q : IsTup h t vs.toArray) (r : RvAll h vs l)
inductive ConcS (c : Cx) (o : Obj) (xs : List Str) (n : Nat) : Prop
  | mk (es : Array (Int × Value)) (ep : Nat) (t : SetTable) (ex : o.ExactSet) (d : o.data = .set es ep t) (el : ElemsOf (PySem.strKind c.prog c.w) es.toList) (mem : ∀ k, xs.contains k = true ↔ ∃ e ∈ es.toList, (PySem.strKind c.prog c.w).is k e.2 = true) (sb : es.size < scanBound) (ft : t.fits es.size = true) (sz : es.size = n)
      (led : t.led = (!c.w.params.followText "set-order")) (pl : 0 < es.size → t.plain = false)
inductive ConcR (o o' : Obj) : Prop
  | mk (e : o = o') (c : ∀ v, o.data ≠ .cell v) (t : ∀ vs n, o.data ≠ .seq vs n ∨ o.cls ≠ .type "tuple")
noncomputable def Conc (c : Cx) (h : Heap) (o : Obj) : AObj → Prop
  | .list l => ConcL h o l
  | .dict l => ConcD c h o l
  | .flds l => ConcF h o l
  | .itT l => ConcI h o l
  | .set xs n => ConcS c o xs n
  | .raw o' => ConcR o o'
theorem Conc.mono {c : Cx} {h h' : Heap} (k : Tk h h') {o : Obj} {ao : AObj} (x : Conc c h o ao) : Conc c h' o ao := by
  cases ao with
  | list _ => exact let ⟨vs, n, e, r⟩ := x; ⟨vs, n, e, r.mono k⟩
  | dict _ => exact let ⟨kvs, e, r⟩ := x; ⟨kvs, e, r.mono k⟩
  | flds _ => exact let ⟨es, n, e, r⟩ := x; ⟨es, n, e, r.mono k⟩
  | raw _ => exact x
  | itT _ => exact let ⟨t, vs, e, q, r⟩ := x; ⟨t, vs, e, k _ _ q, r.mono k⟩
  | set _ _ => exact x
theorem Conc.noCell {c : Cx} {h : Heap} {o : Obj} {ao : AObj} (x : Conc c h o ao) : ∀ v, o.data ≠ .cell v := by
  intro v
  cases ao with
  | list _ => obtain ⟨_, _, e, _⟩ := x; subst e; intro q; cases q
  | dict _ => obtain ⟨_, ⟨_, _, _, e, _⟩, _⟩ := x; rw [e]; intro q; cases q
  | flds _ => obtain ⟨_, _, e, _⟩ := x; subst e; intro q; cases q
  | raw _ => exact x.2 v
  | itT _ => obtain ⟨_, _, e, _⟩ := x; subst e; intro q; cases q
  | set _ _ => obtain ⟨_, _, _, _, e, _⟩ := x; rw [e]; intro q; cases q
theorem Conc.noTup {c : Cx} {h : Heap} {o : Obj} {ao : AObj} (x : Conc c h o ao) : ∀ vs n, o.data ≠ .seq vs n ∨ o.cls ≠ .type "tuple" := by
  intro vs n
  cases ao with
  | list _ => obtain ⟨_, _, e, _⟩ := x; subst e; right; intro q; exact absurd (Value.type.inj q) (by decide)
  | dict _ => obtain ⟨_, ⟨_, _, _, e, _⟩, _⟩ := x; rw [e]; left; intro q; cases q
  | flds _ => obtain ⟨_, _, e, _⟩ := x; subst e; left; intro q; cases q
  | raw _ => exact x.3 vs n
  | itT _ => obtain ⟨_, _, e, _⟩ := x; subst e; left; intro q; cases q
  | set _ _ => obtain ⟨_, _, _, _, e, _⟩ := x; rw [e]; left; intro q; cases q

/-- the name x means v in env -/
inductive NameL (env : Env) (h : Heap) (x : Str) (v : Value) : Prop
  | mk (k : env.kindOf x = some .local) (m : Str → Option Value) (n : h.Ns env.locals m) (e : m x = some v)
inductive NameC (env : Env) (h : Heap) (x : Str) (v : Value) : Prop
  | mk (k : env.kindOf x = some .cell ∨ env.kindOf x = some .free) (cl : Addr) (e : env.cells.lookup x = some cl) (i : h.IsCell cl (some v))
noncomputable def NameAt (env : Env) (h : Heap) (x : Str) (v : Value) : Prop := NameL env h x v ∨ NameC env h x v

/-- the frame's own: its names -/
noncomputable def Fx.Own (f : Fx) (b : Addr) : Prop := b = f.L ∨ ∃ x, f.env.cells.lookup x = some b
noncomputable def Fx.Frs (f : Fx) : List Addr := f.outer.filterMap (·.frame)
inductive ObjAt (c : Cx) (own : Addr → Prop) (L : Addr) (h₀ h : Heap) (a : Addr) (ao : AObj) : Prop
  | mk (o : Obj) (e : h.get? a = some o) (n1 : ¬ own a) (n2 : a ≠ L) (n3 : h₀.get? a = none) (c : Conc c h o ao)
structure Rel (c : Cx) (f : Fx) (env : Env) (ρ : Locals) (η : Store) (s : Shared) : Prop where
  fr : ∃ m, Fr f.h₀ f.L s.heap m
  ns : ∃ m, s.heap.Ns env.locals m
  names : ∀ x av, ρ.lookup x = some av → ∃ v, NameAt env s.heap x v ∧ Rv s.heap v av
  objs : ∀ a ao, (a, ao) ∈ η → ObjAt c f.Own env.locals f.h₀ s.heap a ao
  nd : (η.map (·.1)).Nodup
  cells : ∀ x cl, f.env.cells.lookup x = some cl → ∃ v, s.heap.IsCell cl v
  frs : ∀ b ∈ f.Frs, ∃ o, f.h₀.get? b = some o

/-- from s to s' only the heap and the tokens change, and the tuples stay -/
structure StpX (s s' : Shared) : Prop where
  tk : Tk s.heap s'.heap
  is : ∃ h' n d, s' = { s with heap := h', toks := n, drawn := d }
theorem StpX.refl (s : Shared) : StpX s s := ⟨Tk.refl _, s.heap, s.toks, s.drawn, rfl⟩
theorem StpX.trans {s s' s'' : Shared} (x : StpX s s') (y : StpX s' s'') : StpX s s'' := by
  obtain ⟨t, h, n, d, rfl⟩ := x
  obtain ⟨t', h', n', d', rfl⟩ := y
  exact ⟨t.trans t', h', n', d', rfl⟩
theorem StpX.heap {s : Shared} {h' : Heap} {n : Nat} (k : Tk s.heap h') : StpX s { s with heap := h', toks := n } := ⟨k, h', n, s.drawn, rfl⟩
/-- and what is not in the store, nor a name of the frame, stays -/
structure Stp (f : Fx) (env : Env) (η η' : Store) (s s' : Shared) : Prop extends StpX s s' where
  kp : ∀ b o, s.heap.get? b = some o → b ∉ η.map (·.1) → ¬ (env.locals = f.L ∧ f.Own b) → s'.heap.get? b = some o
  dom : ∀ b ∈ η'.map (·.1), b ∈ η.map (·.1) ∨ s.heap.get? b = none
  ex : ∀ b o, f.Own b → s.heap.get? b = some o → ∃ o', s'.heap.get? b = some o'
theorem Stp.refl {f : Fx} {env : Env} {η : Store} (s : Shared) : Stp f env η η s s := ⟨.refl s, fun _ _ e _ _ => e, fun _ h => .inl h, fun _ o _ e => ⟨o, e⟩⟩
theorem Stp.trans {f : Fx} {env : Env} {η η₁ η₂ : Store} {s s' s'' : Shared} (x : Stp f env η η₁ s s') (y : Stp f env η₁ η₂ s' s'') : Stp f env η η₂ s s'' := by
  have nx : ∀ b o, s.heap.get? b = some o → b ∉ η.map (·.1) → b ∉ η₁.map (·.1) := fun b o e n h => (x.dom b h).elim n fun q => by rw [e] at q; cases q
  refine ⟨x.toStpX.trans y.toStpX, fun b o e n1 n2 => y.kp b o (x.kp b o e n1 n2) (nx b o e n1) n2, fun b h => ?_, fun b o w e => ?_⟩
  · rcases y.dom b h with h | h
    · exact x.dom b h
    · refine Classical.byContradiction fun q => ?_
      rw [not_or] at q
      cases e : s.heap.get? b with
      | none => exact q.2 e
      | some o =>
        by_cases w : f.Own b
        · refine ea1_1 (x.ex b o w e) fun o' e' => ?_; rw [h] at e'; cases e'
        · have := x.kp b o e q.1 fun z => w z.2; rw [h] at this; cases this
  · refine ea1_1 (x.ex b o w e) fun o' e' => ?_
    exact y.ex b o' w e'
theorem Stp.wk {f : Fx} {env : Env} {η η' : Store} {s s' : Shared} (x : Stp f env η η' s s') : Stp f f.env η η' s s' := ⟨x.toStpX, fun b o e n1 n2 => x.kp b o e n1 fun w => n2 ⟨rfl, w.2⟩, x.dom, x.ex⟩
theorem Stp.kp' {f : Fx} {env : Env} {η η' : Store} {s s' : Shared} (x : Stp f env η η' s s') {b : Addr} {o : Obj} (e : s.heap.get? b = some o) (n1 : b ∉ η.map (·.1)) (n2 : ¬ f.Own b) : s'.heap.get? b = some o := x.kp b o e n1 fun w => n2 w.2
/-- all stays -/
theorem Stp.keep {f : Fx} {env : Env} {η : Store} {s : Shared} {h' : Heap} {n : Nat} (k : ∀ b o, s.heap.get? b = some o → h'.get? b = some o) : Stp f env η η s { s with heap := h', toks := n } :=
  ⟨.heap (.of_keep k), fun b o e _ _ => k b o e, fun _ h => .inl h, fun b o _ e => ⟨o, k b o e⟩⟩
theorem Stp.toks {f : Fx} {env : Env} {η : Store} {s : Shared} {n : Nat} : Stp f env η η s { s with toks := n } := Stp.keep (h' := s.heap) fun _ _ e => e
theorem Stp.alloc {f : Fx} {env : Env} {η : Store} {s : Shared} {h' : Heap} {n : Nat} {a : Addr} {ao : AObj} (k : ∀ b o, s.heap.get? b = some o → h'.get? b = some o) (e : s.heap.get? a = none) : Stp f env η ((a, ao) :: η) s { s with heap := h', toks := n } :=
  ⟨.heap (.of_keep k), fun b o e _ _ => k b o e, fun b h => by
    rw [List.map_cons, List.mem_cons] at h
    rcases h with rfl | h
    · exact .inr e
    · exact .inl h, fun b o _ e => ⟨o, k b o e⟩⟩
/-- fewer objects are told of -/
theorem Stp.fewer {f : Fx} {env : Env} {η η₁ η₂ : Store} {s s' : Shared} (x : Stp f env η η₁ s s') (h : ∀ p ∈ η₂, p ∈ η₁) : Stp f env η η₂ s s' :=
  ⟨x.toStpX, x.kp, fun b hb => by refine ea1_2 (List.mem_map.mp hb) fun p hp yq2 => ?_; subst yq2; exact x.dom _ (List.mem_map_of_mem (f := (·.1)) (h p hp)), x.ex⟩

section
variable {c : Cx} {f : Fx} {env : Env} {ρ : Locals} {η : Store} {s : Shared}
theorem NameAt.keeps {h h' : Heap} (k : ∀ b o, h.get? b = some o → h'.get? b = some o) {x : Str} {v : Value} : NameAt env h x v → NameAt env h' x v
  | .inl ⟨e, m, n, y⟩ => .inl ⟨e, m, n.keeps k, y⟩
  | .inr ⟨e, cl, y, i⟩ => .inr ⟨e, cl, y, i.keeps k⟩
/-- all stays -/
theorem Rel.keeps (R : Rel c f env ρ η s) {h' : Heap} {n : Nat} (k : ∀ b o, s.heap.get? b = some o → h'.get? b = some o) : Rel c f env ρ η { s with heap := h', toks := n } where
  fr := let ⟨m, F⟩ := R.fr; ⟨m, F.keeps k⟩
  ns := let ⟨m, F⟩ := R.ns; ⟨m, F.keeps k⟩
  names := fun x av e => let ⟨v, a, b⟩ := R.names x av e; ⟨v, a.keeps k, b.mono (Tk.of_keep k)⟩
  objs := fun a ao e => let ⟨o, e1, e2, e3, e4, e5⟩ := R.objs a ao e; ⟨o, k _ _ e1, e2, e3, e4, e5.mono (Tk.of_keep k)⟩
  nd := R.nd
  cells := fun x cl e => let ⟨v, i⟩ := R.cells x cl e; ⟨v, i.keeps k⟩
  frs := R.frs
theorem Rel.neL (R : Rel c f env ρ η s) {a : Addr} {ao : AObj} (hm : (a, ao) ∈ η) : a ≠ env.locals := let ⟨_, _, _, h, _, _⟩ := R.objs a ao hm; h
theorem Rel.toks (R : Rel c f env ρ η s) (n : Nat) : Rel c f env ρ η { s with toks := n } := R.keeps (h' := s.heap) fun _ _ e => e
theorem Rel.fewer (R : Rel c f env ρ η s) {ρ' : Locals} {η' : Store} (h1 : ∀ x av, ρ'.lookup x = some av → ρ.lookup x = some av) (h2 : ∀ p ∈ η', p ∈ η) (h3 : (η'.map (·.1)).Nodup) : Rel c f env ρ' η' s :=
  ⟨R.fr, R.ns, fun x av e => R.names x av (h1 x av e), fun a ao e => R.objs a ao (h2 _ e), h3, R.cells, R.frs⟩
theorem Rel.fresh (R : Rel c f env ρ η s) {a : Addr} (e : s.heap.get? a = none) : ¬ f.Own a ∧ a ≠ env.locals ∧ f.h₀.get? a = none ∧ a ∉ η.map (·.1) := by
  refine ea1_1 (R.fr) fun m F => ?_
  refine ea4_2 (R.ns) fun m' o' _ _ e' _ => ?_
  refine ea3_2 (F.ns) fun oL _ _ eL _ => ?_
  refine ⟨fun q => ?_, fun q => ?_, ?_, fun q => ?_⟩
  · rcases q with rfl | ⟨x, q⟩
    · rw [e] at eL; cases eL
    · refine ea2_2 (R.cells x a q) fun _ _ e1 _ => ?_; rw [e] at e1; cases e1
  · subst q; rw [e] at e'; cases e'
  · cases q : f.h₀.get? a with
    | none => rfl
    | some o => have := F.keep a o q; rw [e] at this; cases this
  · obtain ⟨⟨b, ao⟩, hm, rfl⟩ := List.mem_map.mp q
    obtain ⟨o, e1, _⟩ := R.objs _ _ hm
    rw [e] at e1; cases e1
/-- a new object -/
theorem Rel.alloc (R : Rel c f env ρ η s) {h' : Heap} {n : Nat} {a : Addr} {o : Obj} {ao : AObj} (k : ∀ b o, s.heap.get? b = some o → h'.get? b = some o) (e : s.heap.get? a = none) (e' : h'.get? a = some o) (hc : Conc c h' o ao) :
    Rel c f env ρ ((a, ao) :: η) { s with heap := h', toks := n } := by
  refine ea0_4 (R.fresh e) fun n1 n2 n3 n4 => ?_
  have R' := R.keeps (n := n) k
  exact ⟨R'.fr, R'.ns, R'.names, fun b bo hm => by
    rcases List.mem_cons.mp hm with q | hm
    · cases q; exact ⟨o, e', n1, n2, n3, hc⟩
    · exact R'.objs b bo hm, by rw [List.map_cons]; exact List.nodup_cons.mpr ⟨n4, R.nd⟩, R'.cells, R.frs⟩
inductive Up (a : Addr) (o o' : AObj) : Store → Store → Prop
  | head {r : Store} : Up a o o' ((a, o) :: r) ((a, o') :: r)
  | tail {p : Addr × AObj} {r r' : Store} : Up a o o' r r' → Up a o o' (p :: r) (p :: r')
theorem Up.mem {a : Addr} {o o' : AObj} {r r' : Store} (u : Up a o o' r r') : (a, o) ∈ r ∧ (a, o') ∈ r' := by
  induction u with
  | head => exact ⟨List.mem_cons_self, List.mem_cons_self⟩
  | tail _ ih => exact ⟨List.mem_cons_of_mem _ ih.1, List.mem_cons_of_mem _ ih.2⟩
theorem Up.keys {a : Addr} {o o' : AObj} {r r' : Store} (u : Up a o o' r r') : r'.map (·.1) = r.map (·.1) := by
  induction u with
  | head => rfl
  | tail _ ih => rw [List.map_cons, List.map_cons, ih]
theorem Up.old {a : Addr} {o o' : AObj} {r r' : Store} (u : Up a o o' r r') (nd : (r.map (·.1)).Nodup) : ∀ b bo, (b, bo) ∈ r' → (b = a ∧ bo = o') ∨ (b ≠ a ∧ (b, bo) ∈ r) := by
  induction u with
  | head =>
    intro b bo hm
    rw [List.map_cons, List.nodup_cons] at nd
    rcases List.mem_cons.mp hm with q | hm
    · cases q; exact .inl ⟨rfl, rfl⟩
    · exact .inr ⟨fun q => nd.1 (q ▸ List.mem_map_of_mem (f := (·.1)) hm), List.mem_cons_of_mem _ hm⟩
  | tail u ih =>
    intro b bo hm
    rw [List.map_cons, List.nodup_cons] at nd
    rcases List.mem_cons.mp hm with q | hm
    · refine .inr ⟨fun q' => nd.1 ?_, q ▸ List.mem_cons_self⟩
      rw [← q]; exact q' ▸ List.mem_map_of_mem (f := (·.1)) u.mem.1
    · rcases ih nd.2 b bo hm with h | h
      · exact .inl h
      · exact .inr ⟨h.1, List.mem_cons_of_mem _ h.2⟩
theorem NameAt.sameBut {h h' : Heap} {a : Addr} {o : Obj} (hs : Heap.SameBut a h h') (e : h.get? a = some o) (nc : ∀ v, o.data ≠ .cell v) (ne : a ≠ env.locals) {x : Str} {v : Value} : NameAt env h x v → NameAt env h' x v
  | .inl ⟨e, m, n, y⟩ => .inl ⟨e, m, n.sameBut hs (Ne.symm ne), y⟩
  | .inr ⟨k, cl, y, i⟩ => .inr ⟨k, cl, y, i.sameBut hs fun q => by refine ea1_2 i fun o' e' d => ?_; try clear i; rw [q, e] at e'; cases e'; exact nc _ d⟩
theorem Tk.sameBut {h h' : Heap} {a : Addr} {o : Obj} (hs : Heap.SameBut a h h') (e : h.get? a = some o) (nt : ∀ vs n, o.data ≠ .seq vs n ∨ o.cls ≠ .type "tuple") : Tk h h' := fun b vs t => by
  have ne := IsTup.ne t e nt
  refine ea1_2 t fun o' e' r => ?_; try clear t
  exact ⟨o', (hs.2 b ne).trans e', r⟩
theorem Rel.tkUp (R : Rel c f env ρ η s) {η' : Store} {a : Addr} {ao ao' : AObj} (u : Up a ao ao' η η') {h' : Heap} (hs : Heap.SameBut a s.heap h') : Tk s.heap h' := by
  obtain ⟨o, e, _, _, _, hc⟩ := R.objs _ _ u.mem.1
  exact Tk.sameBut hs e hc.noTup
/-- an object of the store changes -/
theorem Rel.up (R : Rel c f env ρ η s) {η' : Store} {a : Addr} {ao ao' : AObj} (u : Up a ao ao' η η') {h' : Heap} {n : Nat} {o' : Obj} (hs : Heap.SameBut a s.heap h') (e' : h'.get? a = some o') (hc' : Conc c h' o' ao') :
    Rel c f env ρ η' { s with heap := h', toks := n } := by
  obtain ⟨o, e, n1, n2, n3, hc⟩ := R.objs _ _ u.mem.1
  have tk := R.tkUp u hs
  refine ea1_1 (R.fr) fun m F => ?_
  refine ea1_1 (R.ns) fun m' N => ?_
  refine ⟨⟨m, F.change hs (fun q => n1 (.inl q)) n3⟩, ⟨m', N.sameBut hs (Ne.symm n2)⟩, fun x av ex => ?_, fun b bo hm => ?_, by rw [u.keys]; exact R.nd, fun x cl ex => let ⟨v, i⟩ := R.cells x cl ex; ⟨v, i.sameBut hs fun q => by refine ea1_2 i fun o' e' d => ?_; try clear i; rw [q, e] at e'; cases e'; exact hc.noCell _ d⟩, R.frs⟩
  · refine ea1_2 (R.names x av ex) fun v a1 a2 => ?_
    exact ⟨v, a1.sameBut hs e hc.noCell n2, a2.mono tk⟩
  · rcases u.old R.nd b bo hm with ⟨rfl, rfl⟩ | ⟨ne, hm⟩
    · exact ⟨o', e', n1, n2, n3, hc'⟩
    · obtain ⟨ob, e1, e2, e3, e4, e5⟩ := R.objs b bo hm
      exact ⟨ob, (hs.2 b ne).trans e1, e2, e3, e4, e5.mono tk⟩
theorem Stp.up {η' : Store} {a : Addr} {ao ao' : AObj} (R : Rel c f env ρ η s) (u : Up a ao ao' η η') {h' : Heap} {n : Nat} {o' : Obj} (hs : Heap.SameBut a s.heap h') (e' : h'.get? a = some o') : Stp f env η η' s { s with heap := h', toks := n } := by
  have ma : a ∈ η.map (·.1) := List.mem_map_of_mem (f := (·.1)) u.mem.1
  refine ⟨.heap (R.tkUp u hs), fun b o e n1 _ => (hs.2 b fun q => n1 (q ▸ ma)).trans e, fun b h => .inl (u.keys ▸ h), fun b o w e => ?_⟩
  by_cases q : b = a
  · exact ⟨o', q ▸ e'⟩
  · exact ⟨o, (hs.2 b q).trans e⟩
theorem Stp.own {a : Addr} (hL : env.locals = f.L) (w : f.Own a) {h' : Heap} {n : Nat} {o' : Obj} (hs : Heap.SameBut a s.heap h') (e' : h'.get? a = some o') (tk : Tk s.heap h') : Stp f env η η s { s with heap := h', toks := n } := by
  refine ⟨.heap tk, fun b o e _ n2 => (hs.2 b fun q => n2 ⟨hL, q ▸ w⟩).trans e, fun b h => .inl h, fun b o w e => ?_⟩
  by_cases q : b = a
  · exact ⟨o', q ▸ e'⟩
  · exact ⟨o, (hs.2 b q).trans e⟩
/-- a name of the frame is stored -/
theorem Rel.store (R : Rel c f env ρ η s) (hL : env.locals = f.L) {x : Str} {v : Value} {av : AV} (hk : env.kindOf x = some .local) {h' : Heap} {n : Nat} {m : Str → Option Value} (hn : s.heap.Ns env.locals m)
    (hn' : h'.Ns env.locals fun y => if y = x then some v else m y) (hs : Heap.SameBut env.locals s.heap h') (r : Rv s.heap v av) : Rel c f env ((x, av) :: ρ) η { s with heap := h', toks := n } ∧ Stp f env η η s { s with heap := h', toks := n } := by
  refine ea1_1 (R.fr) fun m₀ F => ?_
  refine ea3_3 (id hn) fun oL es ep eL dL _ => ?_
  have tk : Tk s.heap h' := Tk.sameBut hs eL fun _ _ => .inl (by rw [dL]; intro q; cases q)
  have hs' : Heap.SameBut f.L s.heap h' := hL ▸ hs
  refine ⟨⟨⟨_, F.set (hL ▸ hn') hs'⟩, ⟨_, hn'⟩, fun y ay ey => ?_, fun b bo hm => ?_, R.nd, fun x cl ex => let ⟨v, i⟩ := R.cells x cl ex; ⟨v, i.sameBut hs fun q => by refine ea1_2 i fun o' e' d => ?_; try clear i; rw [q, eL] at e'; cases e'; rw [dL] at d; cases d⟩, R.frs⟩, by refine ea3_2 (id hn') fun o' _ _ e' _ => ?_; exact Stp.own hL (.inl hL) hs e' tk⟩
  · rw [List.lookup_cons] at ey
    by_cases q : y = x
    · subst q
      simp only [beq_self_eq_true, Option.some.injEq] at ey
      subst ey
      exact ⟨v, .inl ⟨hk, _, hn', by simp⟩, r.mono tk⟩
    · have : (y == x) = false := beq_eq_false_iff_ne.mpr q
      simp only [this] at ey
      refine ea1_2 (R.names y ay ey) fun u a1 a2 => ?_
      refine ⟨u, ?_, a2.mono tk⟩
      rcases a1 with ⟨k1, m1, n1, e1⟩ | ⟨k1, cl, e1, i1⟩
      · refine .inl ⟨k1, _, hn', ?_⟩
        have := n1.agree hn y
        simp only [q, if_false]; rw [← this]; exact e1
      · exact .inr ⟨k1, cl, e1, i1.sameBut hs fun q => by refine ea1_2 i1 fun o' e' d => ?_; try clear i1; rw [q, eL] at e'; cases e'; rw [dL] at d; cases d⟩
  · obtain ⟨ob, e1, e2, e3, e4, e5⟩ := R.objs b bo hm
    exact ⟨ob, (hs.2 b e3).trans e1, e2, e3, e4, e5.mono tk⟩
theorem cellsFrom_apart : ∀ (names : List (Str × NameKind)) (n : Nat) (acc : List (Str × Addr)), acc.Pairwise (fun x y => x.2 ≠ y.2) → (∀ p ∈ acc, @LT.lt Nat _ p.2 n) → (cellsFrom n names acc).Pairwise (fun x y => x.2 ≠ y.2)
  | [], _, acc, h, _ => h
  | (x, k) :: r, n, acc, h, l => by
    unfold cellsFrom
    split
    · refine cellsFrom_apart r (n + 1) _ (List.pairwise_cons.mpr ⟨fun p hp => Nat.ne_of_gt (l p hp), h⟩) fun p hp => ?_
      rcases List.mem_cons.mp hp with rfl | hp
      · exact Nat.lt_succ_self _
      · exact Nat.lt_succ_of_lt (l p hp)
    · exact cellsFrom_apart r n acc h l
theorem cellsFrom_above (lo : Nat) : ∀ (names : List (Str × NameKind)) (n : Nat) (acc : List (Str × Addr)), (∀ p ∈ acc, @LE.le Nat _ lo p.2) → lo ≤ n → ∀ p ∈ cellsFrom n names acc, @LE.le Nat _ lo p.2
  | [], _, acc, h, _ => h
  | (x, k) :: r, n, acc, h, l => by
    unfold cellsFrom
    split
    · refine cellsFrom_above lo r (n + 1) _ (fun p hp => ?_) (Nat.le_succ_of_le l)
      rcases List.mem_cons.mp hp with rfl | hp
      · exact l
      · exact h p hp
    · exact cellsFrom_above lo r n acc h l
theorem Fx.cells_ne' {f : Fx} {x : Str} {cl : Addr} (e : f.env.cells.lookup x = some cl) (h : f.h₀.objs.size ≤ f.L) : cl ≠ f.L ∧ f.h₀.get? cl = none := by
  have := cellsFrom_above (f.L + 1) f.cs.names (f.L + 1) [] (fun _ h => nomatch h) (Nat.le_refl _) _ (mem_of_lookup (show (cellsFrom (f.L + 1) f.cs.names []).lookup x = some cl from e))
  exact ⟨Nat.ne_of_gt this, Heap.get?_none_of_le (Nat.le_trans h (Nat.le_of_succ_le this))⟩
theorem Fx.cells_inj {f : Fx} {x y : Str} {cl : Addr} (e : f.env.cells.lookup x = some cl) (e' : f.env.cells.lookup y = some cl) : x = y :=
  name_of_addr (cellsFrom_apart f.cs.names (f.L + 1) [] .nil (fun _ h => nomatch h)) (mem_of_lookup (show (cellsFrom (f.L + 1) f.cs.names []).lookup x = some cl from e)) (mem_of_lookup (show (cellsFrom (f.L + 1) f.cs.names []).lookup y = some cl from e'))
/-- a cell of the frame is stored -/
theorem Rel.storeCell (R : Rel c f f.env ρ η s) {x : Str} {v : Value} {av : AV} (hk : f.env.kindOf x = some .cell) {h' : Heap} {n : Nat} {cl : Addr} {v₀ : Option Value} (ex : f.env.cells.lookup x = some cl) (hn : s.heap.IsCell cl v₀)
    (hn' : h'.IsCell cl (some v)) (hs : Heap.SameBut cl s.heap h') (r : Rv s.heap v av) : Rel c f f.env ((x, av) :: ρ) η { s with heap := h', toks := n } ∧ Stp f f.env η η s { s with heap := h', toks := n } := by
  refine ea1_1 (R.fr) fun m₀ F => ?_
  refine ea1_2 (id hn) fun oL eL dL => ?_
  refine ea0_2 (Fx.cells_ne' ex F.above) fun nL n0 => ?_
  have tk : Tk s.heap h' := Tk.sameBut hs eL fun _ _ => .inl (by rw [dL]; intro q; cases q)
  have F' : Fr f.h₀ f.L h' m₀ := F.change hs nL n0
  refine ⟨⟨⟨_, F'⟩, ⟨_, F'.ns⟩, fun y ay ey => ?_, fun b bo hm => ?_, R.nd, fun y cl' ey => ?_, R.frs⟩, by refine ea1_2 (id hn') fun o' e' _ => ?_; exact Stp.own rfl (.inr ⟨x, ex⟩) hs e' tk⟩
  · rw [List.lookup_cons] at ey
    by_cases q : y = x
    · subst q
      simp only [beq_self_eq_true, Option.some.injEq] at ey
      subst ey
      exact ⟨v, .inr ⟨.inl hk, cl, ex, hn'⟩, r.mono tk⟩
    · have : (y == x) = false := beq_eq_false_iff_ne.mpr q
      simp only [this] at ey
      refine ea1_2 (R.names y ay ey) fun u a1 a2 => ?_
      refine ⟨u, ?_, a2.mono tk⟩
      rcases a1 with ⟨k1, m1, n1, e1⟩ | ⟨k1, cl', e1, i1⟩
      · exact .inl ⟨k1, m1, n1.sameBut hs (Ne.symm nL), e1⟩
      · refine .inr ⟨k1, cl', e1, i1.sameBut hs fun z => q (Fx.cells_inj e1 (z ▸ ex))⟩
  · obtain ⟨ob, e1, e2, e3, e4, e5⟩ := R.objs b bo hm
    refine ⟨ob, (hs.2 b fun z => ?_).trans e1, e2, e3, e4, e5.mono tk⟩
    rw [z, eL] at e1; cases e1; exact e5.noCell _ dL
  · refine ea1_1 (R.cells y cl' ey) fun u i => ?_
    by_cases z : cl' = cl
    · subst z; exact ⟨_, hn'⟩
    · exact ⟨u, i.sameBut hs z⟩
end
/-- what stays while an exception flies through the frame, since the state s with its store η -/
structure XKeep (c : Cx) (f : Fx) (η : Store) (s : Shared) (η' : Store) (B : Heap) (s' : Shared) : Prop where
  hB : f.base.StaysIn B
  kp : ∀ b o, s.heap.get? b = some o → b ∉ η.map (·.1) → ¬ f.Own b → b ∉ f.Frs → B.get? b = some o
  objs : ∀ a ao, (a, ao) ∈ η' → ∃ o, B.get? a = some o ∧ ¬ f.Own a ∧ f.h₀.get? a = none ∧ Conc c s'.heap o ao
  nd : (η'.map (·.1)).Nodup
  ups : ∀ b o, b ∈ f.Frs → s.heap.get? b = some o → ∃ sl, s'.heap.get? b = some { o with slots := sl }
  stp : StpX s s'
  dom : ∀ b ∈ η'.map (·.1), b ∈ η.map (·.1) ∨ s.heap.get? b = none
/-- an exception has been made and flies not yet -/
structure Made (h h' : Heap) (e : Addr) (X : Value) : Prop where
  keeps : ∀ b o, h.get? b = some o → h'.get? b = some o
  new : h.get? e = none
  there : ∃ oe vs a0, h'.get? e = some oe ∧ oe.cls = X ∧ oe.data = .fields vs ∧ vs[1]? = some .none ∧ vs[0]? = some a0
/-- x flies in the frame, since the state s with its store η -/
inductive XA (c : Cx) (f : Fx) (X : Value) (η : Store) (s : Shared) (η' : Store) (e : Addr) (s' : Shared) : Prop
  | mk (h : Heap) (tk : Nat) (u : Unit) (R : Rel c f f.env [] η' { s' with heap := h, toks := tk }) (t : Stp f f.env η η' s { s' with heap := h, toks := tk }) (m : Made h s'.heap e X)
inductive XB (c : Cx) (f : Fx) (X : Value) (η : Store) (s : Shared) (η' : Store) (e : Addr) (s' : Shared) : Prop
  | mk (B : Heap) (a0 fl : Value) (k : XKeep c f η s η' B s') (k1 : B.StaysIn s'.heap) (k2 : B.get? e = none) (k3 : s'.heap.FunFrames B (f.env :: f.outer)) (k4 : s'.heap.TracedAtW B e X a0 fl)
inductive XRel (c : Cx) (f : Fx) (X : Value) (η : Store) (s : Shared) (η' : Store) (x : Value) (s' : Shared) : Prop
  | mk (e : Addr) (q : x = .ref e) (h : XA c f X η s η' e s' ∨ XB c f X η s η' e s')
/-- where an exception may go: its class and what then holds of the store -/
structure Exc where
  X : Value
  P : Store → Prop
noncomputable def Exc.no : Exc := ⟨.none, fun _ => False⟩
/-- what is not of the frame's names nor of the store is not of them later -/
theorem Stp.nin {f : Fx} {env : Env} {η η₁ : Store} {s s' : Shared} (x : Stp f env η η₁ s s') {b : Addr} {o : Obj} (e : s.heap.get? b = some o) (n : b ∉ η.map (·.1)) : b ∉ η₁.map (·.1) := fun h => (x.dom b h).elim n fun q => by rw [e] at q; cases q
theorem Rel.frsKept {c : Cx} {f : Fx} {env env' : Env} {ρ : Locals} {η η₁ : Store} {s s₁ : Shared} (R : Rel c f env ρ η s) (t : Stp f env' η η₁ s s₁) : ∀ b ∈ f.Frs, ∀ o, s.heap.get? b = some o → s₁.heap.get? b = some o := fun b hb o e => by
  refine ea1_1 (R.frs b hb) fun o₀ e₀ => ?_
  refine ea1_1 (R.fr) fun m F => ?_
  refine t.kp' e (fun h => ?_) fun w => ?_
  · obtain ⟨⟨b', bo⟩, hm, rfl⟩ := List.mem_map.mp h
    obtain ⟨_, _, _, _, n0, _⟩ := R.objs _ _ hm
    rw [n0] at e₀; cases e₀
  · rcases w with rfl | ⟨x, w⟩
    · have := Heap.lt_size e₀
      exact absurd (Nat.lt_of_lt_of_le this F.above) (Nat.lt_irrefl _)
    · rw [(Fx.cells_ne' w F.above).2] at e₀; cases e₀
theorem XRel.on {c : Cx} {f : Fx} {env env' : Env} {ρ : Locals} {X x : Value} {η η₁ η' : Store} {s s₁ s' : Shared} (R : Rel c f env ρ η s) (t : Stp f env' η η₁ s s₁) (h : XRel c f X η₁ s₁ η' x s') : XRel c f X η s η' x s' := by
  obtain ⟨e, rfl, ⟨h, tk, a, R, t', m⟩ | ⟨B, a0, fl, k, r1, r2, r3, r4⟩⟩ := h
  · exact ⟨e, rfl, .inl ⟨h, tk, a, R, t.wk.trans t', m⟩⟩
  · refine ⟨e, rfl, .inr ⟨B, a0, fl, ⟨k.hB, fun b o e n1 n2 n3 => k.kp b o (t.kp' e n1 n2) (t.nin e n1) n2 n3, k.objs, k.nd, fun b o m e => k.ups b o m (R.frsKept t b m o e), t.toStpX.trans k.stp, fun b hb => ?_⟩, r1, r2, r3, r4⟩⟩
    refine Classical.byContradiction fun q => ?_
    rw [not_or] at q
    cases e1 : s.heap.get? b with
    | none => exact q.2 e1
    | some o =>
      obtain ⟨⟨b', bo⟩, hm, rfl⟩ := List.mem_map.mp hb
      refine ea1_3 (k.objs _ _ hm) fun _ _ nO _ => ?_
      have e2 := t.kp' e1 q.1 nO
      rcases k.dom _ hb with h | h
      · exact t.nin e1 q.1 h
      · rw [e2] at h; cases h
noncomputable def Esc (c : Cx) (f : Fx) (η : Store) (s : Shared) (Ψ : Exc) (E : Value → Shared → Prop) : Prop := ∀ x η' s', XRel c f Ψ.X η s η' x s' → Ψ.P η' → E x s'
theorem Esc.no {c : Cx} {f : Fx} {η : Store} {s : Shared} {E : Value → Shared → Prop} : Esc c f η s Exc.no E := fun _ _ _ _ h => h.elim
theorem Esc.on {c : Cx} {f : Fx} {env env' : Env} {ρ : Locals} {η η₁ : Store} {s s' : Shared} {Ψ : Exc} {E : Value → Shared → Prop} (h : Esc c f η s Ψ E) (R : Rel c f env ρ η s) (t : Stp f env' η η₁ s s') : Esc c f η₁ s' Ψ E := fun x η s'' a d => h x η s'' (a.on R t) d

inductive Post (c : Cx) (f : Fx) (env : Env) (ρ : Locals) (η : Store) (s : Shared) (Φ : AV → Store → Prop) (v : Value) (s' : Shared) : Prop
  | mk (av : AV) (η' : Store) (R : Rel c f env ρ η' s') (t : Stp f env η η' s s') (r : Rv s'.heap v av) (k : Φ av η')
inductive PostAll (c : Cx) (f : Fx) (env : Env) (ρ : Locals) (η : Store) (s : Shared) (Φ : List AV → Store → Prop) (vs : List Value) (s' : Shared) : Prop
  | mk (avs : List AV) (η' : Store) (R : Rel c f env ρ η' s') (t : Stp f env η η' s s') (r : RvAll s'.heap vs avs) (k : Φ avs η')
inductive PostB (c : Cx) (f : Fx) (env : Env) (ρ : Locals) (η : Store) (s : Shared) (Φ : Bool → Store → Prop) (b : Bool) (s' : Shared) : Prop
  | mk (η' : Store) (R : Rel c f env ρ η' s') (t : Stp f env η η' s s') (k : Φ b η')
inductive PostN (c : Cx) (f : Fx) (env : Env) (η : Store) (s : Shared) (Φ : Locals → Store → Prop) (fl : Flow) (s' : Shared) : Prop
  | mk (e : fl = .next) (ρ' : Locals) (η' : Store) (R : Rel c f env ρ' η' s') (t : Stp f env η η' s s') (k : Φ ρ' η')
inductive PostR (c : Cx) (f : Fx) (env : Env) (η : Store) (s : Shared) (Φr : AV → Store → Prop) (fl : Flow) (s' : Shared) : Prop
  | mk (v : Value) (e : fl = .ret v) (av : AV) (ρ' : Locals) (η' : Store) (R : Rel c f env ρ' η' s') (t : Stp f env η η' s s') (r : Rv s'.heap v av) (k : Φr av η')
noncomputable def PostF (c : Cx) (f : Fx) (env : Env) (η : Store) (s : Shared) (Φ : Locals → Store → Prop) (Φr : AV → Store → Prop) (fl : Flow) (s' : Shared) : Prop := PostN c f env η s Φ fl s' ∨ PostR c f env η s Φr fl s'

/-- an expression -/
noncomputable def Ev (c : Cx) (f : Fx) (env : Env) (e : Expr) (ρ : Locals) (η : Store) (Φ : AV → Store → Prop) (Ψ : Exc) : Prop :=
  ∀ s E, Rel c f env ρ η s → Esc c f η s Ψ E → wpAny (model c.prog c.w) f.A (eval e env) (Post c f env ρ η s Φ) E s
/-- expressions, from the left -/
noncomputable def Evs (c : Cx) (f : Fx) (env : Env) (es : List Expr) (ρ : Locals) (η : Store) (Φ : List AV → Store → Prop) (Ψ : Exc) : Prop :=
  ∀ pos s E, Rel c f env ρ η s → Esc c f η s Ψ E → wpAny (model c.prog c.w) f.A (spliced (backTo pos (starEach es env))) (PostAll c f env ρ η s Φ) E s
/-- a test -/
noncomputable def Tt (c : Cx) (f : Fx) (env : Env) (e : Expr) (ρ : Locals) (η : Store) (Φ : Bool → Store → Prop) (Ψ : Exc) : Prop :=
  ∀ s E, Rel c f env ρ η s → Esc c f η s Ψ E → wpAny (model c.prog c.w) f.A (isTrue e env (eval e env)) (PostB c f env ρ η s Φ) E s
/-- an operation on values at hand -/
noncomputable def Op (c : Cx) (f : Fx) (env : Env) (t : List Value → Sem Value) (as : List AV) (ρ : Locals) (η : Store) (Φ : AV → Store → Prop) (Ψ : Exc) : Prop :=
  ∀ vs s E, RvAll s.heap vs as → Rel c f env ρ η s → Esc c f η s Ψ E → wpAny (model c.prog c.w) f.A (t vs) (Post c f env ρ η s Φ) E s
noncomputable def OpB (c : Cx) (f : Fx) (env : Env) (t : List Value → Sem Bool) (as : List AV) (ρ : Locals) (η : Store) (Φ : Bool → Store → Prop) (Ψ : Exc) : Prop :=
  ∀ vs s E, RvAll s.heap vs as → Rel c f env ρ η s → Esc c f η s Ψ E → wpAny (model c.prog c.w) f.A (t vs) (PostB c f env ρ η s Φ) E s
/-- a statement, statements -/
noncomputable def Ex (c : Cx) (f : Fx) (env : Env) (st : Stmt) (ρ : Locals) (η : Store) (Φ : Locals → Store → Prop) (Φr : AV → Store → Prop) (Ψ : Exc) : Prop :=
  ∀ s E, Rel c f env ρ η s → Esc c f η s Ψ E → wpAny (model c.prog c.w) f.A (exec st env) (PostF c f env η s Φ Φr) E s
noncomputable def Exs (c : Cx) (f : Fx) (env : Env) (st : List Stmt) (ρ : Locals) (η : Store) (Φ : Locals → Store → Prop) (Φr : AV → Store → Prop) (Ψ : Exc) : Prop :=
  ∀ s E, Rel c f env ρ η s → Esc c f η s Ψ E → wpAny (model c.prog c.w) f.A (execs st env) (PostF c f env η s Φ Φr) E s

section
variable {c : Cx} {f : Fx} {env : Env} {ρ : Locals} {η : Store} {Φ : AV → Store → Prop} {Φs : List AV → Store → Prop} {Φb : Bool → Store → Prop} {Φn : Locals → Store → Prop} {Ψ : Exc} {n : Nat}

theorem Post.on {η₁ : Store} {s s' : Shared} (t : Stp f env η η₁ s s') {v : Value} {s'' : Shared} (h : Post c f env ρ η₁ s' Φ v s'') : Post c f env ρ η s Φ v s'' :=
  let ⟨av, η', a, b, d, e⟩ := h; ⟨av, η', a, t.trans b, d, e⟩
theorem PostAll.on {η₁ : Store} {s s' : Shared} (t : Stp f env η η₁ s s') {v : List Value} {s'' : Shared} (h : PostAll c f env ρ η₁ s' Φs v s'') : PostAll c f env ρ η s Φs v s'' :=
  let ⟨av, η', a, b, d, e⟩ := h; ⟨av, η', a, t.trans b, d, e⟩
theorem PostB.on {η₁ : Store} {s s' : Shared} (t : Stp f env η η₁ s s') {v : Bool} {s'' : Shared} (h : PostB c f env ρ η₁ s' Φb v s'') : PostB c f env ρ η s Φb v s'' :=
  let ⟨η', a, b, e⟩ := h; ⟨η', a, t.trans b, e⟩
theorem PostF.on {η₁ : Store} {s s' : Shared} (t : Stp f env η η₁ s s') {fl : Flow} {s'' : Shared} (h : PostF c f env η₁ s' Φn Φ fl s'') : PostF c f env η s Φn Φ fl s'' := by
  rcases h with ⟨e, ρ', η', a, b, d⟩ | ⟨v, e, av, ρ', η', a, b, d, g⟩
  · exact .inl ⟨e, ρ', η', a, t.trans b, d⟩
  · exact .inr ⟨v, e, av, ρ', η', a, t.trans b, d, g⟩
theorem Post.here {s : Shared} {v : Value} {av : AV} (R : Rel c f env ρ η s) (r : Rv s.heap v av) (h : Φ av η) : Post c f env ρ η s Φ v s := ⟨av, η, R, .refl _, r, h⟩

/-- a law's post may be weakened -/
theorem Ev.mono {e : Expr} {Φ' : AV → Store → Prop} (h : Ev c f env e ρ η Φ Ψ) (k : ∀ a η, Φ a η → Φ' a η) : Ev c f env e ρ η Φ' Ψ := fun s E R hE =>
  wpAny_mono (h s E R hE) (fun _ _ ⟨av, η', a, b, d, e⟩ => ⟨av, η', a, b, d, k _ _ e⟩) fun _ _ x => x

theorem Ev.int {i : Int} {k : Nat} {pos : Pos} (h : Φ (.int i) η) : Ev c f env (.Constant (.int i) k pos) ρ η Φ Ψ := fun s _ R _ => wpAny_Constant_int ⟨_, _, R.toks _, .toks, .int _ _, h⟩
theorem Ev.str {i : Str} {k : Nat} {pos : Pos} (h : Φ (.str i) η) : Ev c f env (.Constant (.str i) k pos) ρ η Φ Ψ := fun s _ R _ => wpAny_Constant_str ⟨_, _, R.toks _, .toks, .str _ _, h⟩
theorem Ev.bool {i : Bool} {k : Nat} {pos : Pos} (h : Φ (.bool i) η) : Ev c f env (.Constant (.bool i) k pos) ρ η Φ Ψ := fun s _ R _ => wpAny_Constant_bool ⟨_, _, R, .refl _, .bool _, h⟩
theorem Ev.cnone {k : Nat} {pos : Pos} (h : Φ .none η) : Ev c f env (.Constant .none k pos) ρ η Φ Ψ := fun s _ R _ => wpAny_Constant_none ⟨_, _, R, .refl _, .none, h⟩

theorem Ev.name {x : Str} {pos : Pos} {av : AV} (e : ρ.lookup x = some av) (h : Φ av η) (hk : env.scope.kind = .function := by rfl) (hd : (x == ("__debug__" : Str)) = false := by decide) (hcd : (x == ("__classdict__" : Str)) = false := by decide) :
    Ev c f env (.Name x pos) ρ η Φ Ψ := fun s _ R _ => by
  refine ea1_2 (R.names x av e) fun v a r => ?_
  rcases a with ⟨k, m, n, y⟩ | ⟨k | k, cl, y, i⟩
  · exact wpAny_Name (wpAny_loadName_local hk k n y (.here R r h)) hd
  · exact wpAny_Name (wpAny_loadName_cell hk k y i (.here R r h)) hd
  · exact wpAny_Name (wpAny_loadName_free hk k y i (.here R r h) hcd) hd
theorem Ev.glob {x : Str} {pos : Pos} {v : Value} (ok : FOk c f n) (e : nsIn c.K mainGlobals x = some (some v)) (h : Φ (.val v) η) (hx : env.kindOf x = some .globalImplicit := by rfl) (hk : env.scope.kind = .function := by rfl) (hg : env.globals = mainGlobals := by rfl)
    (hd : (x == ("__debug__" : Str)) = false := by decide) : Ev c f env (.Name x pos) ρ η Φ Ψ := fun s _ R _ => by
  refine ea1_1 (R.fr) fun m F => ?_
  have T := topRead_of ok.T
  exact Name_function_global hk hx (loadGlobal_global (env := env) (hg ▸ T.g.keeps F.keep) (mg_of ok.X T.g e) (.here R (.val _) h)) hd
theorem Ev.bltn {x : Str} {pos : Pos} {v : Value} (ok : FOk c f n) (e : nsIn c.K mainGlobals x = some none) (hv : bootBuiltins x = some v) (hn : x ≠ "__name__") (h : Φ (.val v) η) (hx : env.kindOf x = some .globalImplicit := by rfl) (hk : env.scope.kind = .function := by rfl) (hg : env.globals = mainGlobals := by rfl)
    (hb : env.builtins = builtinsNs := by rfl) (hd : (x == ("__debug__" : Str)) = false := by decide) : Ev c f env (.Name x pos) ρ η Φ Ψ := fun s _ R _ => by
  refine ea1_1 (R.fr) fun m F => ?_
  have T := topRead_of ok.T
  exact Name_function_global hk hx (loadGlobal_builtin (env := env) (hg ▸ T.g.keeps F.keep) (mg_none_of ok.X T.g e) (hb ▸ T.b.keeps F.keep) ((T.builtins x hn).trans hv) (.here R (.val _) h)) hd

theorem Evs.nil (h : Φs [] η) : Evs c f env [] ρ η Φs Ψ := fun pos s E R _ => spliced_none ⟨[], η, R, .refl _, .nil, h⟩
theorem Evs.cons {e : Expr} {rest : List Expr} (h : Ev c f env e ρ η (fun a η₁ => Evs c f env rest ρ η₁ (fun as η₂ => Φs (a :: as) η₂) Ψ) Ψ)
    (he : ∀ env, starEach (e :: rest) env = (false, eval e env) :: starEach rest env := by intro _; rfl) : Evs c f env (e :: rest) ρ η Φs Ψ := fun pos s E R hE => by
  refine args_cons (wpAny_mono (h s E R hE) (fun v s₁ h₁ => ?_) fun _ _ x => x) (he env)
  obtain ⟨av, η₁, R₁, t₁, r₁, k₁⟩ := h₁
  refine wpAny_mono (k₁ pos s₁ E R₁ (hE.on R t₁)) (fun vs s₂ h₂ => ?_) fun _ _ x => x
  obtain ⟨avs, η₂, R₂, t₂, r₂, k₂⟩ := h₂
  exact ⟨_, _, R₂, t₁.trans t₂, .cons (r₁.mono t₂.tk) r₂, k₂⟩

theorem Ev.binop {l r : Expr} {op : Operator} {pos : Pos} (h : Ev c f env l ρ η (fun a η₁ => Ev c f env r ρ η₁ (fun b η₂ => Op c f env (fun vs => match vs with | [x, y] => binaryOp op x y | _ => unsupported "") [a, b] ρ η₂ Φ Ψ) Ψ) Ψ) :
    Ev c f env (.BinOp l op r pos) ρ η Φ Ψ := fun s E R hE => by
  refine wpAny_BinOp (wpAny_mono (h s E R hE) (fun v s₁ h₁ => ?_) fun _ _ x => x)
  obtain ⟨av, η₁, R₁, t₁, r₁, k₁⟩ := h₁
  refine wpAny_mono (k₁ s₁ E R₁ (hE.on R t₁)) (fun u s₂ h₂ => ?_) fun _ _ x => x
  obtain ⟨bv, η₂, R₂, t₂, r₂, k₂⟩ := h₂
  exact wpAny_mono (k₂ [v, u] s₂ E (.cons (r₁.mono t₂.tk) (.cons r₂ .nil)) R₂ (hE.on R (t₁.trans t₂))) (fun _ _ h => h.on (t₁.trans t₂)) fun _ _ x => x
noncomputable abbrev cmpT (op : CmpOp) : List Value → Sem Value := fun vs => match vs with | [x, y] => compareOp op x y | _ => unsupported ""
theorem Ev.cmp {l r : Expr} {op : CmpOp} {pos : Pos} (h : Ev c f env l ρ η (fun a η₁ => Ev c f env r ρ η₁ (fun b η₂ => Op c f env (cmpT op) [a, b] ρ η₂ Φ Ψ) Ψ) Ψ) (hm : behindInMarks op r = false := by with_unfolding_all rfl) :
    Ev c f env (.Compare l [op] [r] pos) ρ η Φ Ψ := fun s E R hE => by
  refine wpAny_Compare1 (wpAny_mono (h s E R hE) (fun v s₁ h₁ => ?_) fun _ _ x => x) hm
  obtain ⟨av, η₁, R₁, t₁, r₁, k₁⟩ := h₁
  refine wpAny_mono (k₁ s₁ E R₁ (hE.on R t₁)) (fun u s₂ h₂ => ?_) fun _ _ x => x
  obtain ⟨bv, η₂, R₂, t₂, r₂, k₂⟩ := h₂
  exact wpAny_mono (k₂ [v, u] s₂ E (.cons (r₁.mono t₂.tk) (.cons r₂ .nil)) R₂ (hE.on R (t₁.trans t₂))) (fun _ _ h => h.on (t₁.trans t₂)) fun _ _ x => x
theorem Tt.cmp {l r : Expr} {op : CmpOp} {pos : Pos} (h : Ev c f env l ρ η (fun a η₁ => Ev c f env r ρ η₁ (fun b η₂ => Op c f env (cmpT op) [a, b] ρ η₂ (fun d η₃ => ∃ b, d = .bool b ∧ Φb b η₃) Ψ) Ψ) Ψ) (hm : behindInMarks op r = false := by with_unfolding_all rfl) :
    Tt c f env (.Compare l [op] [r] pos) ρ η Φb Ψ := fun s E R hE => by
  refine wpAny_isTrue_Compare1 (wpAny_mono (h s E R hE) (fun v s₁ h₁ => ?_) fun _ _ x => x) hm
  obtain ⟨av, η₁, R₁, t₁, r₁, k₁⟩ := h₁
  refine wpAny_mono (k₁ s₁ E R₁ (hE.on R t₁)) (fun u s₂ h₂ => ?_) fun _ _ x => x
  obtain ⟨bv, η₂, R₂, t₂, r₂, k₂⟩ := h₂
  refine wpAny_mono (k₂ [v, u] s₂ E (.cons (r₁.mono t₂.tk) (.cons r₂ .nil)) R₂ (hE.on R (t₁.trans t₂))) (fun d s₃ h₃ => ?_) fun _ _ x => x
  obtain ⟨dv, η₃, R₃, t₃, r₃, b, rfl, k₃⟩ := h₃
  first | apply Rv.eVal r₃ | (apply Rv.eInt r₃; intro _) | (apply Rv.eStr r₃; intro _) | apply Rv.eBool r₃ | cases r₃
  exact wpAny_truthy_bool ⟨_, R₃, (t₁.trans t₂).trans t₃, k₃⟩
/-- any test by its value -/
theorem Tt.of {e : Expr} (h : Ev c f env e ρ η (fun a η₁ => OpB c f env (fun vs => match vs with | [x] => truthy x | _ => unsupported "") [a] ρ η₁ Φb Ψ) Ψ)
    (he : ∀ env whole, isTrue e env whole = (do let v ← whole; standAt e.pos; holding [v] (truthy v)) := by intro _ _; rfl) : Tt c f env e ρ η Φb Ψ := fun s E R hE => by
  refine isTrue_plain (wpAny_mono (h s E R hE) (fun v s₁ h₁ => ?_) fun _ _ x => x) (he _ _)
  obtain ⟨av, η₁, R₁, t₁, r₁, k₁⟩ := h₁
  exact wpAny_mono (k₁ [v] s₁ E (.cons r₁ .nil) R₁ (hE.on R t₁)) (fun _ _ h => h.on t₁) fun _ _ x => x
theorem OpB.bool {b : Bool} (h : Φb b η) : OpB c f env (fun vs => match vs with | [x] => truthy x | _ => unsupported "") [.bool b] ρ η Φb Ψ := fun vs s E r R _ => by
  cases r with | cons r r' => cases r'; cases r; exact wpAny_truthy_bool ⟨_, R, .refl _, h⟩
theorem Tt.not {e : Expr} {pos : Pos} (h : Tt c f env e ρ η (fun b η₁ => Φb (!b) η₁) Ψ) : Tt c f env (.UnaryOp .Not e pos) ρ η Φb Ψ := fun s E R hE =>
  isTrue_not (wpAny_mono (h s E R hE) (fun _ _ ⟨η', a, b, e⟩ => ⟨η', a, b, e⟩) fun _ _ x => x)
theorem Tt.and0 {pos : Pos} (h : Φb true η) : Tt c f env (.BoolOp .And [] pos) ρ η Φb Ψ := fun _ _ R _ => isTrue_and_nil ⟨η, R, .refl _, h⟩
theorem Tt.or0 {pos : Pos} (h : Φb false η) : Tt c f env (.BoolOp .Or [] pos) ρ η Φb Ψ := fun _ _ R _ => isTrue_or_nil ⟨η, R, .refl _, h⟩
theorem Tt.and {x : Expr} {rest : List Expr} {pos : Pos} (h : Tt c f env x ρ η (fun b η₁ => (b = true → Tt c f env (.BoolOp .And rest pos) ρ η₁ Φb Ψ) ∧ (b = false → Φb false η₁)) Ψ) : Tt c f env (.BoolOp .And (x :: rest) pos) ρ η Φb Ψ := fun s E R hE => by
  refine isTrue_and (wpAny_mono (h s E R hE) (fun b s₁ h₁ => ?_) fun _ _ x => x)
  obtain ⟨η₁, R₁, t₁, k₁, k₂⟩ := h₁
  cases b with
  | true => exact wpAny_mono (k₁ rfl s₁ E R₁ (hE.on R t₁)) (fun _ _ h => h.on t₁) fun _ _ x => x
  | false => exact ⟨η₁, R₁, t₁, k₂ rfl⟩
theorem Tt.or {x : Expr} {rest : List Expr} {pos : Pos} (h : Tt c f env x ρ η (fun b η₁ => (b = false → Tt c f env (.BoolOp .Or rest pos) ρ η₁ Φb Ψ) ∧ (b = true → Φb true η₁)) Ψ) : Tt c f env (.BoolOp .Or (x :: rest) pos) ρ η Φb Ψ := fun s E R hE => by
  refine isTrue_or (wpAny_mono (h s E R hE) (fun b s₁ h₁ => ?_) fun _ _ x => x)
  obtain ⟨η₁, R₁, t₁, k₁, k₂⟩ := h₁
  cases b with
  | false => exact wpAny_mono (k₁ rfl s₁ E R₁ (hE.on R t₁)) (fun _ _ h => h.on t₁) fun _ _ x => x
  | true => exact ⟨η₁, R₁, t₁, k₂ rfl⟩
theorem Ev.ifexp {t b o : Expr} {pos : Pos} (h : Tt c f env t ρ η (fun d η₁ => (d = true → Ev c f env b ρ η₁ Φ Ψ) ∧ (d = false → Ev c f env o ρ η₁ Φ Ψ)) Ψ) : Ev c f env (.IfExp t b o pos) ρ η Φ Ψ := fun s E R hE => by
  refine IfExp_ (wpAny_mono (h s E R hE) (fun d s₁ h₁ => ?_) fun _ _ x => x)
  obtain ⟨η₁, R₁, t₁, k₁, k₂⟩ := h₁
  cases d with
  | true => exact wpAny_mono (k₁ rfl s₁ E R₁ (hE.on R t₁)) (fun _ _ h => h.on t₁) fun _ _ x => x
  | false => exact wpAny_mono (k₂ rfl s₁ E R₁ (hE.on R t₁)) (fun _ _ h => h.on t₁) fun _ _ x => x
theorem Tt.ifexp {t b o : Expr} {pos : Pos} (h : Tt c f env t ρ η (fun d η₁ => (d = true → Tt c f env b ρ η₁ Φb Ψ) ∧ (d = false → Tt c f env o ρ η₁ Φb Ψ)) Ψ) : Tt c f env (.IfExp t b o pos) ρ η Φb Ψ := fun s E R hE => by
  refine isTrue_IfExp (wpAny_mono (h s E R hE) (fun d s₁ h₁ => ?_) fun _ _ x => x)
  obtain ⟨η₁, R₁, t₁, k₁, k₂⟩ := h₁
  cases d with
  | true => exact wpAny_mono (k₁ rfl s₁ E R₁ (hE.on R t₁)) (fun _ _ h => h.on t₁) fun _ _ x => x
  | false => exact wpAny_mono (k₂ rfl s₁ E R₁ (hE.on R t₁)) (fun _ _ h => h.on t₁) fun _ _ x => x
/-- «x and y» as a value, both bools -/
theorem Ev.and {x y : Expr} {pos : Pos} (h : Ev c f env x ρ η (fun a η₁ => ∃ b, a = .bool b ∧ (b = true → Ev c f env y ρ η₁ Φ Ψ) ∧ (b = false → Φ (.bool false) η₁)) Ψ) : Ev c f env (.BoolOp .And [x, y] pos) ρ η Φ Ψ := fun s E R hE => by
  refine BoolOp_and (wpAny_mono (h s E R hE) (fun v s₁ h₁ => ?_) fun _ _ x => x)
  obtain ⟨av, η₁, R₁, t₁, r₁, b, rfl, k₁, k₂⟩ := h₁
  first | apply Rv.eVal r₁ | (apply Rv.eInt r₁; intro _) | (apply Rv.eStr r₁; intro _) | apply Rv.eBool r₁ | cases r₁
  refine wpAny_truthy_bool ?_
  cases b with
  | true => exact BoolOp_one (wpAny_mono (k₁ rfl s₁ E R₁ (hE.on R t₁)) (fun _ _ h => h.on t₁) fun _ _ x => x)
  | false => exact ⟨_, η₁, R₁, t₁, .bool _, k₂ rfl⟩

theorem Ev.tuple {es : List Expr} {k : Nat} {pos : Pos} (h : Evs c f env es ρ η (fun as η₁ => as.length ≤ 1000000 ∧ Φ (.tup as) η₁) Ψ) : Ev c f env (.Tuple es k pos) ρ η Φ Ψ := fun s E R hE => by
  refine Tuple_ (wpAny_mono (h pos s E R hE) (fun vs s₁ h₁ => ?_) fun _ _ x => x)
  obtain ⟨as, η₁, R₁, t₁, r₁, hl, k₁⟩ := h₁
  refine wpAny_newObj_type ?_ (by show vs.toArray.size ≤ sizeLine; rw [List.size_toArray, sizeLine_eq, r₁.length]; lia)
  have kp : ∀ b o, s₁.heap.get? b = some o → (s₁.heap.push { cls := .type "tuple", dict := .none, data := .seq vs.toArray }).get? b = some o := fun b o e => Heap.get?_push_of_some _ e
  exact ⟨_, η₁, R₁.keeps kp, t₁.trans (.keep kp), .tup ⟨_, Heap.get?_push_size _ rfl, rfl, _, rfl⟩ (r₁.mono (.of_keep kp)), k₁⟩
theorem Ev.list {es : List Expr} {pos : Pos} (h : Evs c f env es ρ η (fun as η₁ => as.length ≤ 1000000 ∧ ∀ D, Φ (.val (.ref D)) ((D, .list as) :: η₁)) Ψ) : Ev c f env (.List es pos) ρ η Φ Ψ := fun s E R hE => by
  refine List_ (wpAny_mono (h pos s E R hE) (fun vs s₁ h₁ => ?_) fun _ _ x => x)
  obtain ⟨as, η₁, R₁, t₁, r₁, hl, k₁⟩ := h₁
  refine wpAny_newObj_type ?_ (by show vs.toArray.size ≤ sizeLine; rw [List.size_toArray, sizeLine_eq, r₁.length]; lia)
  have kp : ∀ b o, s₁.heap.get? b = some o → (s₁.heap.push { cls := .type "list", dict := .none, data := .seq vs.toArray }).get? b = some o := fun b o e => Heap.get?_push_of_some _ e
  exact ⟨_, _, R₁.alloc (ao := .list as) kp (Heap.get?_none_of_le (Nat.le_refl _)) (Heap.get?_push_size _ rfl) ⟨vs, _, rfl, r₁.mono (.of_keep kp)⟩, t₁.trans (.alloc kp (Heap.get?_none_of_le (Nat.le_refl _))), .val _, k₁ _⟩

theorem Exs.nil {Φr : AV → Store → Prop} (h : Φn ρ η) : Exs c f env [] ρ η Φn Φr Ψ := fun s E R _ => wpAny_execs_nil (.inl ⟨rfl, ρ, η, R, .refl _, h⟩)
theorem Exs.cons {st : Stmt} {rest : List Stmt} {Φr : AV → Store → Prop} (h : Ex c f env st ρ η (fun ρ₁ η₁ => Exs c f env rest ρ₁ η₁ Φn Φr Ψ) Φr Ψ) : Exs c f env (st :: rest) ρ η Φn Φr Ψ := fun s E R hE => by
  refine wpAny_execs_cons (wpAny_mono (h s E R hE) (fun fl s₁ h₁ => ?_) fun _ _ x => x)
  rcases h₁ with ⟨rfl, ρ₁, η₁, R₁, t₁, k₁⟩ | ⟨v, rfl, av, ρ₁, η₁, R₁, t₁, r₁, k₁⟩
  · exact wpAny_mono (k₁ s₁ E R₁ (hE.on R t₁)) (fun _ _ h => h.on t₁) fun _ _ x => x
  · exact .inr ⟨v, rfl, av, ρ₁, η₁, R₁, t₁, r₁, k₁⟩
theorem Ex.ret {e : Expr} {pos : Pos} {Φr : AV → Store → Prop} (h : Ev c f env e ρ η Φr Ψ) : Ex c f env (.Return (some e) pos) ρ η Φn Φr Ψ := fun s E R hE =>
  wpAny_Return_some (wpAny_mono (h s E R hE) (fun v s₁ ⟨av, η₁, R₁, t₁, r₁, k₁⟩ => .inr ⟨v, rfl, av, ρ, η₁, R₁, t₁, r₁, k₁⟩) fun _ _ x => x)
theorem Ex.if {t : Expr} {b o : List Stmt} {pos : Pos} {Φr : AV → Store → Prop} (h : Tt c f env t ρ η (fun d η₁ => (d = true → Exs c f env b ρ η₁ Φn Φr Ψ) ∧ (d = false → Exs c f env o ρ η₁ Φn Φr Ψ)) Ψ) : Ex c f env (.If t b o pos) ρ η Φn Φr Ψ := fun s E R hE => by
  refine wpAny_If (wpAny_mono (h s E R hE) (fun d s₁ h₁ => ?_) fun _ _ x => x)
  obtain ⟨η₁, R₁, t₁, k₁, k₂⟩ := h₁
  cases d with
  | true => exact wpAny_mono (k₁ rfl s₁ E R₁ (hE.on R t₁)) (fun _ _ h => h.on t₁) fun _ _ x => x
  | false => exact wpAny_mono (k₂ rfl s₁ E R₁ (hE.on R t₁)) (fun _ _ h => h.on t₁) fun _ _ x => x
end
section
variable {M : Model} {A : Around} {E : Value → Shared → Prop} {s : Shared}
theorem x_note {base : Heap} {env : Env} {outer : List Env} {L e : Addr} {cls a0 fl : Value} {Q : Unit → Shared → Prop}
    (hfr : A.frames = some (env :: outer)) (hl : s.heap.FunFrames base (env :: outer)) (hf : env.frame = some L) (ht : s.heap.TracedAtW base e cls a0 fl) (hkb : base.StaysIn s.heap) (hen : base.get? e = none)
    (h : ∀ h', Heap.NotedW base (env :: outer) e cls a0 (rawInt L) s.heap h' → Q () { s with heap := h' }) : wpAny M A (noteFrame (.ref e) env) Q E s := by
  refine ea5_9 (id ht) fun oe vs T oT ts he zq1 hd h1 hnT hTe hT hdT h3 => ?_; refine ea0_2 zq1 fun hcls h0 => ?_; clear zq1
  by_cases hfl : fl = rawInt L
  · subst hfl
    exact wpAny_noteFrame_againW hf ht (h s.heap ⟨hkb, hl, ht, fun b o e _ => ⟨o.slots, e⟩⟩)
  · subst hcls
    unfold noteFrame
    simp only [hf]
    refine wpAny_bind (wpAny_field he hd h1 ?_)
    rw [if_pos (show (Value.ref T != Value.none) = true from by simp)]
    refine wpAny_bind (wpAny_field hT hdT h3 ?_)
    rw [if_neg (show ¬ ((fl == rawInt L) = true) from fun q => hfl (eq_of_beq q))]
    refine wpAny_bind (wpAny_setField hT hdT (Array.getElem?_eq_some_iff.mp h3).1 ?_)
    have other : ∀ b, b ≠ T → (s.heap.update T (Obj.mapFields (·.setIfInBounds 3 Value.none))).get? b = s.heap.get? b := fun b hb => Heap.get?_update_other _ _ (Ne.symm hb)
    have noRecord : ∀ b o, s.heap.get? b = some o → (∀ vs, o.data ≠ .fields vs) → b ≠ T := fun b o hb hnf q => by
      rw [q, hT] at hb; injection hb with hb; subst hb; exact hnf ts hdT
    refine wpAny_entryW hfr (hl.of_keeps fun b o hb hnf => ⟨o, (other b (noRecord b o hb hnf)).trans hb, rfl⟩) hf ((other e (Ne.symm hTe)).trans he)
      (fun b o hbo => (other b fun q => by rw [q, hnT] at hbo; cases hbo).trans (hkb b o hbo)) hen hd (Array.getElem?_eq_some_iff.mp h1).1 h0
      fun h' ⟨x1, x2, x3, x4⟩ => h h' ⟨x1, x2, x3, fun b o hb hnf => x4 b o ((other b (noRecord b o hb hnf)).trans hb) hnf⟩
theorem x_note1 {base : Heap} {env : Env} {outer : List Env} {L e : Addr} {oe : Obj} {vs : Array Value} {a0 : Value} {Q : Unit → Shared → Prop}
    (hfr : A.frames = some (env :: outer)) (hl : s.heap.FunFrames base (env :: outer)) (hf : env.frame = some L)
    (he : s.heap.get? e = some oe) (hkb : base.StaysIn s.heap) (hen : base.get? e = none) (hd : oe.data = .fields vs) (h1 : vs[1]? = some .none) (h0 : vs[0]? = some a0)
    (h : ∀ h', Heap.NotedW base (env :: outer) e oe.cls a0 (rawInt L) s.heap h' → Q () { s with heap := h' }) : wpAny M A (noteFrame (.ref e) env) Q E s := by
  unfold noteFrame
  simp only [hf]
  refine wpAny_bind (wpAny_field he hd h1 ?_)
  rw [if_neg (by decide)]
  exact wpAny_entryW hfr hl hf he hkb hen hd (Array.getElem?_eq_some_iff.mp h1).1 h0 h
theorem x_flight {base : Heap} {l : List Env} {e : Addr} {cls a0 fl : Value} {fr : Option Addr} {Q : Unit → Shared → Prop} (hkb : base.StaysIn s.heap) (hen : base.get? e = none) (hl : s.heap.FunFrames base l) (ht : s.heap.TracedAtW base e cls a0 fl)
    (h : ∀ h', base.StaysIn h' → h'.FunFrames base l → h'.TracedAtW base e cls a0 (fr.elim Value.none fun f => rawInt f) → (∀ b o, s.heap.get? b = some o → (∀ vs, o.data ≠ .fields vs) → h'.get? b = some o) → Q () { s with heap := h' }) : wpAny M A (setFlight (.ref e) fr) Q E s := by
  refine ea5_9 ht fun oe vs T oT ts he hcls hd h1 hnT hTe hT hdT h3 => ?_; try clear ht
  have hsz3 : 3 < ts.size := (Array.getElem?_eq_some_iff.mp h3).1
  have other : ∀ b, b ≠ T → (s.heap.update T (Obj.mapFields (·.setIfInBounds 3 (fr.elim Value.none fun f => rawInt f)))).get? b = s.heap.get? b :=
    fun b hb => Heap.get?_update_other _ _ (Ne.symm hb)
  have noRecord : ∀ b o, s.heap.get? b = some o → (∀ vs, o.data ≠ .fields vs) → b ≠ T := fun b o hb hnf q => by
    rw [q, hT] at hb; injection hb with hb; subst hb; exact hnf ts hdT
  unfold setFlight
  refine wpAny_bind (wpAny_field he hd h1 ?_)
  rw [if_pos (show (Value.ref T != Value.none) = true from by simp)]
  refine wpAny_setField hT hdT hsz3 (h _ (fun b o hbo => (other b fun q => by rw [q, hnT] at hbo; cases hbo).trans (hkb b o hbo))
    (hl.of_keeps fun b o hb hnf => ⟨o, (other b (noRecord b o hb hnf)).trans hb, rfl⟩) ?_ fun b o hb hnf => (other b (noRecord b o hb hnf)).trans hb)
  exact ⟨oe, vs, T, _, _, (other e (Ne.symm hTe)).trans he, hcls, hd, h1, hnT, hTe, Heap.get?_update_self _ hT (Obj.isFreed_of_fields (Obj.data_mapFields hdT _)), Obj.data_mapFields hdT _, by simp [hsz3]⟩
end

theorem Tk.slots {h h' : Heap} (x : h.UpToSlots h') : Tk h h' := fun a vs ⟨o, e, c, n, d⟩ => by
  obtain ⟨sl, e'⟩ := x a o e fun vs q => by rw [d] at q; cases q
  exact ⟨_, e', c, n, d⟩

section
variable {c : Cx} {f : Fx} {env : Env} {ρ : Locals} {η η' : Store} {s s' : Shared} {n : Nat} {X x : Value}
theorem Fx.frame (f : Fx) : f.env.frame = some f.L := rfl
/-- the frames of f, its own too, are hidden: what is left -/
noncomputable abbrev Fx.hid (f : Fx) (h : Heap) : Heap := hideAll h (f.L :: f.Frs)
theorem FOk.frs_none (ok : FOk c f n) {b : Addr} (hb : b ∈ f.Frs) : f.base.get? b = none := (ok.B.frames.mem hb).1
theorem FOk.frs_data (ok : FOk c f n) {b : Addr} (hb : b ∈ f.Frs) : ∃ o, f.h₀.get? b = some o ∧ ∀ vs, o.data ≠ .fields vs := (ok.B.frames.mem hb).2
theorem Rel.L_none (R : Rel c f env ρ η s) : f.h₀.get? f.L = none := by refine ea1_1 (R.fr) fun m F => ?_; exact Heap.get?_none_of_le F.above

/-- the exception is noted in its frame -/
theorem XRel.note {e : Addr} {M : Model} {E : Value → Shared → Prop} (ok : FOk c f n) (R : Rel c f env ρ η s) (h : XRel c f X η s η' (.ref e) s') :
    wpAny M f.A (noteFrame (.ref e) f.env) (fun _ s'' => ∃ B a0, XKeep c f η s η' B s'' ∧ B.StaysIn s''.heap ∧ B.get? e = none ∧ s''.heap.FunFrames B (f.env :: f.outer) ∧ s''.heap.TracedAtW B e X a0 (rawInt f.L)) E s' := by
  obtain ⟨e', q, h⟩ := h
  cases q
  rcases h with ⟨h, tk, args, R', t, mk⟩ | ⟨B, a0, fl, k, k1, k2, k3, k4⟩
  · refine ea3_5 (mk.there) fun oe evs ea0 he hcl hed he1 he0 => ?_
    subst hcl
    refine ea1_1 (R'.fr) fun m' F' => ?_
    refine ea1_1 (R.fr) fun m F => ?_
    have hin : ∀ env ∈ (f.env :: f.outer), ∀ b, env.frame = some b → b ∈ f.L :: f.Frs := fun env he b hb => by
      rcases List.mem_cons.mp he with rfl | he
      · rw [Fx.frame] at hb; cases hb; exact List.mem_cons_self
      · exact List.mem_cons_of_mem _ (List.mem_filterMap.mpr ⟨env, he, hb⟩)
    have K' := pushX ok.B F' f.frame ok.hk
    have st : f.base.StaysIn (f.hid h) := fun b o q => hideAll_get _ (F'.keep b o (ok.B.stays b o q)) fun hm => by
      rcases List.mem_cons.mp hm with rfl | hm
      · have := R.L_none; rw [ok.B.stays _ _ q] at this; cases this
      · rw [ok.frs_none hm] at q; cases q
    have hen : (f.hid h).get? e = none := by
      cases q : (f.hid h).get? e with
      | none => rfl
      | some o => have := of_hideAll _ q; rw [mk.new] at this; cases this
    have fr0 : h.FunFrames (f.hid h) (f.env :: f.outer) := funFrames_hide K'.frames hin
    refine x_note1 rfl (fr0.of_keeps fun b o hb _ => ⟨o, mk.keeps b o hb, rfl⟩) f.frame he (fun b o q => mk.keeps b o (of_hideAll _ q)) hen hed he1 he0 fun h' hN => ?_
    refine ea0_4 hN fun x1 x2 x3 x4 => ?_; try clear hN
    have kp : ∀ b o, s.heap.get? b = some o → b ∉ η.map (·.1) → ¬ f.Own b → h.get? b = some o := fun b o e n1 n2 => t.kp' e n1 n2
    have tk' : Tk h h' := (Tk.of_keep mk.keeps).trans (.slots x4)
    refine ⟨f.hid h, _, ⟨st, fun b o e n1 n2 n3 => hideAll_get _ (kp b o e n1 n2) fun hm => ?_, fun a ao hm => ?_, R'.nd, fun b o hb e => ?_, ?_, t.dom⟩, x1, hen, x2, x3⟩
    · rcases List.mem_cons.mp hm with q | hm
      · exact n2 (.inl q)
      · exact n3 hm
    · obtain ⟨o, e1, n1, n2, n3, hc⟩ := R'.objs a ao hm
      refine ⟨o, hideAll_get _ e1 fun hm => ?_, n1, n3, hc.mono tk'⟩
      rcases List.mem_cons.mp hm with q | hm
      · exact n1 (.inl q)
      · refine ea1_1 (R'.frs a hm) fun o' e' => ?_; rw [n3] at e'; cases e'
    · refine ea1_2 (ok.frs_data hb) fun o' e' d' => ?_
      have := F.keep _ _ e'
      rw [e] at this; cases this
      exact x4 b o (mk.keeps _ _ (R.frsKept t b hb o e)) d'
    · obtain ⟨_, h₂, n₂, d₂, q⟩ := t.toStpX
      obtain ⟨hp, gg, dd, tt, oo⟩ := s'
      cases q
      exact ⟨t.tk.trans tk', _, _, _, rfl⟩
  · refine x_note rfl k3 f.frame k4 k1 k2 fun h' hN => ?_
    refine ea0_4 hN fun x1 x2 x3 x4 => ?_; try clear hN
    refine ⟨B, a0, ⟨k.hB, k.kp, fun a ao hm => ?_, k.nd, fun b o hb e => ?_, ?_, k.dom⟩, x1, k2, x2, x3⟩
    · refine ea1_4 (k.objs a ao hm) fun o e1 n1 n2 hc => ?_
      exact ⟨o, e1, n1, n2, hc.mono (.slots x4)⟩
    · refine ea1_1 (k.ups b o hb e) fun sl e1 => ?_
      refine ea1_1 (R.fr) fun m F => ?_
      refine ea1_2 (ok.frs_data hb) fun o' e' d' => ?_
      have := F.keep _ _ e'
      rw [e] at this; cases this
      refine ea1_1 (x4 b _ e1 d') fun sl' e2 => ?_
      exact ⟨sl', e2⟩
    · exact k.stp.trans (.heap (.slots x4))
end
/-- the contract of a function: called with these values, in any frame with room for n calls within one another -/
noncomputable def FnC (c : Cx) (a : Addr) (n : Nat) (args : List AV) (η : Store) (Φ : AV → Store → Prop) (Ψ : Exc) : Prop :=
  ∀ (f : Fx) (env : Env) (ρ : Locals) (vs : List Value) (s : Shared) (E : Value → Shared → Prop), FOk c f n → Rel c f env ρ η s → RvAll s.heap vs args → Esc c f η s Ψ E →
    codeAny (model c.prog c.w) f.A (.call (.ref a) ⟨vs, []⟩) (fun r s' => match r with | .ok (.ret v) => Post c f env ρ η s Φ v s' | .ok _ => False | .error e => E e s') s

section
variable {c : Cx} {f : Fx} {env : Env} {ρ : Locals} {η : Store} {Φ : AV → Store → Prop} {Ψ : Exc} {n : Nat} {a : Addr} {args : List AV} {s : Shared}

/-- the store's objects as they lie -/
theorem Rel.ledger (R : Rel c f env ρ η s) : ∃ nw : List (Addr × Obj), News f.h₀ f.L s.heap nw ∧ nw.map (·.1) = η.map (·.1) ∧ (∀ a ao, (a, ao) ∈ η → ∃ o, (a, o) ∈ nw ∧ a ≠ env.locals ∧ ¬ f.Own a ∧ Conc c s.heap o ao) ∧ ∀ p ∈ nw, (∀ v, p.2.data ≠ .cell v) ∧ (∀ vs n, p.2.data ≠ .seq vs n ∨ p.2.cls ≠ .type "tuple") ∧ p.1 ≠ env.locals := by
  have : ∀ l : Store, (∀ p ∈ l, p ∈ η) → ∃ nw : List (Addr × Obj), News f.h₀ f.L s.heap nw ∧ nw.map (·.1) = l.map (·.1) ∧ (∀ a ao, (a, ao) ∈ l → ∃ o, (a, o) ∈ nw ∧ a ≠ env.locals ∧ ¬ f.Own a ∧ Conc c s.heap o ao) ∧ ∀ p ∈ nw, (∀ v, p.2.data ≠ .cell v) ∧ (∀ vs n, p.2.data ≠ .seq vs n ∨ p.2.cls ≠ .type "tuple") ∧ p.1 ≠ env.locals := by
    intro l
    induction l with
    | nil => intro _; exact ⟨[], .nil, rfl, (fun _ _ h => nomatch h), fun _ h => nomatch h⟩
    | cons p l ih =>
      intro hs
      refine ea1_4 (ih fun q hq => hs q (List.mem_cons_of_mem _ hq)) fun nw N e k t => ?_
      obtain ⟨b, bo⟩ := p
      obtain ⟨o, e1, e2, e3, e4, e5⟩ := R.objs b bo (hs _ List.mem_cons_self)
      refine ⟨(b, o) :: nw, fun q hq => ?_, by rw [List.map_cons, List.map_cons, e], fun a ao hm => ?_, fun q hq => ?_⟩
      · rcases List.mem_cons.mp hq with rfl | hq
        · exact ⟨e1, fun q => e2 (.inl q), e4⟩
        · exact N q hq
      · rcases List.mem_cons.mp hm with q | hm
        · cases q; exact ⟨o, List.mem_cons_self, e3, e2, e5⟩
        · refine ea1_2 (k a ao hm) fun o' m r => ?_; exact ⟨o', List.mem_cons_of_mem _ m, r⟩
      · rcases List.mem_cons.mp hq with rfl | hq
        · exact ⟨e5.noCell, e5.noTup, e3⟩
        · exact t q hq
  exact this η fun _ h => h

theorem RvAll.zip {h : Heap} : ∀ {ps : List Str} {vs : List Value} {as : List AV}, RvAll h vs as → ∀ x av, (ps.zip as).lookup x = some av → ∃ v, (ps.zip vs).lookup x = some v ∧ Rv h v av
  | [], _, _, _, x, av, e => by simp at e
  | _ :: _, [], _, .nil, x, av, e => by simp at e
  | p :: ps, v :: vs, d :: ds, .cons r r', x, av, e => by
    rw [List.zip_cons_cons, List.lookup_cons] at e ⊢
    by_cases q : x = p
    · subst q; simp only [beq_self_eq_true, Option.some.injEq] at e ⊢; subst e; exact ⟨v, rfl, r⟩
    · have : (x == p) = false := beq_eq_false_iff_ne.mpr q
      simp only [this] at e ⊢
      exact RvAll.zip r' x av e

theorem bindL_local {kindOf : Str → Option NameKind} : ∀ (l : List (Str × Value)) (m : Str → Option Value) (x : Str) (v : Value), (l.map (·.1)).Nodup → l.lookup x = some v → kindOf x = some .local → bindL kindOf l m x = some v := by
  intro l
  induction l with
  | nil => intro m x v _ e; simp at e
  | cons p l ih =>
    intro m x v nd e k
    obtain ⟨y, u⟩ := p
    rw [List.map_cons, List.nodup_cons] at nd
    rw [List.lookup_cons] at e
    by_cases q : x = y
    · subst q
      simp only [beq_self_eq_true, Option.some.injEq] at e
      subst e
      have : ∀ (l : List (Str × Value)) (m : Str → Option Value), x ∉ l.map (·.1) → bindL kindOf l m x = m x := by
        intro l
        induction l with
        | nil => intro m _; rfl
        | cons p l ih =>
          intro m nx
          rw [List.map_cons, List.mem_cons, not_or] at nx
          obtain ⟨z, w⟩ := p
          rw [bindL]
          rw [ih _ nx.2]
          simp only at nx
          split <;> simp [nx.1]
      rw [bindL, this _ _ nd.1]
      simp [k]
    · have : (x == y) = false := beq_eq_false_iff_ne.mpr q
      simp only [this] at e
      rw [bindL]
      exact ih _ x v nd.2 e k
theorem bindC_cell {kindOf : Str → Option NameKind} : ∀ (l : List (Str × Value)) (m : Str → Option Value) (x : Str) (v : Value), (l.map (·.1)).Nodup → l.lookup x = some v → kindOf x = some .cell → bindC kindOf l m x = some v := by
  intro l
  induction l with
  | nil => intro m x v _ e; simp at e
  | cons p l ih =>
    intro m x v nd e k
    obtain ⟨y, u⟩ := p
    rw [List.map_cons, List.nodup_cons] at nd
    rw [List.lookup_cons] at e
    by_cases q : x = y
    · subst q
      simp only [beq_self_eq_true, Option.some.injEq] at e
      subst e
      have : ∀ (l : List (Str × Value)) (m : Str → Option Value), x ∉ l.map (·.1) → bindC kindOf l m x = m x := by
        intro l
        induction l with
        | nil => intro m _; rfl
        | cons p l ih =>
          intro m nx
          rw [List.map_cons, List.mem_cons, not_or] at nx
          obtain ⟨z, w⟩ := p
          rw [bindC]
          rw [ih _ nx.2]
          simp only at nx
          split <;> simp [nx.1]
      rw [bindC, this _ _ nd.1]
      simp [k]
    · have : (x == y) = false := beq_eq_false_iff_ne.mpr q
      simp only [this] at e
      rw [bindC]
      exact ih _ x v nd.2 e k

theorem call_ev {prog : Program} {w : World} {A₀ A : Around} {s : Shared} {base h₀ : Heap} {outer : List Env} {L : Addr} {m : Str → Option Value} {env : Env} {news : List (Addr × Obj)}
    {R : Result → Shared → Prop} {name qual : Str} {params : Arguments} {body : List Stmt} {scope : Scope} {dV kV doc pm cdv ct : Value} {an : Option Addr} {fo : Obj} {f : Addr} {args : Args} {binds : List (Str × Value)}
    (B : Below A₀ base outer h₀) (F : Fr h₀ L s.heap m) (N : News h₀ L s.heap news) (hlim : h₀.NoLimit) (hA : A.frames = some (env :: outer)) (hf : env.frame = some L) (hke : env.scope.kind = .function)
    (ho : s.heap.get? f = some fo) (hd : fo.data = .func (fnOf name qual params body scope dV kV doc pm an cdv ct)) (hcd : s.heap.CodeRec cdv qual) (hroom : A.depth < recursionLimit)
    (hbind : BindsTo s (fnOf name qual params body scope dV kV doc pm an cdv ct) args binds)
    (hkind : ∀ n, ∀ x ∈ binds, scope.names.lookup x.1 = some .local ∨ (scope.names.lookup x.1 = some .cell ∧ ((cellsFrom n scope.names []).lookup x.1).isSome = true))
    (h : ∀ h₁ tk, Fr h₀ L (hideAll s.heap (news.map (·.1))) m → Fr (hideAll s.heap (news.map (·.1))) s.heap.objs.size h₁ (bindL (envOfC qual scope s.heap.objs.size f cdv).kindOf binds fun _ => none) →
      (∀ b o, s.heap.get? b = some o → h₁.get? b = some o) → (∀ n c, (cellsFrom (s.heap.objs.size + 1) scope.names []).lookup n = some c → h₁.IsCell c (bindC (envOfC qual scope s.heap.objs.size f cdv).kindOf binds (fun _ => none) n)) →
      Below A base (env :: outer) (hideAll s.heap (news.map (·.1))) → h₀.StaysIn (hideAll s.heap (news.map (·.1))) → (∀ v s', LeaveK h₀ L m (hideAll s.heap (news.map (·.1))) R v s' → R (.ok (.ret v)) s') →
      wpAny (model prog w) (A.deeper (envOfC qual scope s.heap.objs.size f cdv)) (execs body (envOfC qual scope s.heap.objs.size f cdv))
        (fun fl s' => R (.ok (.ret (match fl with | .ret v => v | _ => .none))) s')
        (fun e s' => wpAny (model prog w) (A.deeper (envOfC qual scope s.heap.objs.size f cdv)) (leaving (envOfC qual scope s.heap.objs.size f cdv) e) (fun _ s'' => R (.error e) s'') (fun e' s'' => R (.error e') s'') s')
        { s with heap := h₁, toks := tk })
    (hco : scope.isCoroutine = false) (hgen : scope.isGenerator = false) (hk : scope.kind = .function) : codeAny (model prog w) A (.call (.ref f) args) R s := by
  refine ea0_4 (groundX (R := R) B F N hA hf hke) fun FG BG st lv => ?_
  refine codeAny_call_function hroom ho hd hco hgen rfl hcd (hbind _ _ _ _ ?_)
  refine wpAny_newFunctionEnv_cells hk (hkind _) fun env' he s' x => ?_
  subst he
  refine ⟨(hlim.keeps F.keep).keeps x.toInCall.keep, codeAny_func ?_⟩
  refine ea2_2 (x.done) fun h₁ tk yq1 _ => ?_; subst yq1
  have hk₁ := x.toInCall.keep
  refine wpAny_mono (h h₁ tk FG ⟨x.toInCall.ns, fun b o e => hk₁ b o (of_hideAll _ e), Nat.le_of_eq (hideAll_size _ _)⟩ hk₁ x.cell BG st (fun v s' hl => lv v s' hl)) (fun fl s' hl => hl) fun _ _ y => y

/-- the frame of a call made in f -/
noncomputable abbrev Fx.down (f : Fx) (qual : Str) (scope : Scope) (L a : Addr) (cdv : Value) (g : Heap) : Fx :=
  { dp := f.dp + 1, un := f.un + 3, gd := f.gd, cn := qual, cs := scope, L := L, a := a, ccd := cdv, outer := f.env :: f.outer, h₀ := g, base := f.base, A₀ := f.A }
theorem Fx.A_deeper (f : Fx) (qual : Str) (scope : Scope) (L a : Addr) (cdv : Value) (g : Heap) : f.A.deeper (envOfC qual scope L a cdv) = (f.down qual scope L a cdv g).A := rfl

theorem XRel.leave {x : Value} {s₁ s' : Shared} {E : Value → Shared → Prop} {qual : Str} {scope : Scope} {cdv : Value} {g : Heap} {L' : Addr} {ρ' : Locals} {η' : Store} {X : Value} (ok : FOk c f n) (R : Rel c f env ρ η s) (ok' : FOk c (f.down qual scope L' a cdv g) n) (R' : Rel c (f.down qual scope L' a cdv g) (f.down qual scope L' a cdv g).env ρ' η s₁)
    (st : f.h₀.StaysIn g) (t₁ : StpX s s₁) (hk₁ : ∀ b o, s.heap.get? b = some o → s₁.heap.get? b = some o) (own : ∀ b, f.Own b → ∃ o, g.get? b = some o) (new : ∀ b o, s.heap.get? b = some o → ¬ (f.down qual scope L' a cdv g).Own b)
    (h : XRel c (f.down qual scope L' a cdv g) X η s₁ η' x s') :
    wpAny (model c.prog c.w) (f.down qual scope L' a cdv g).A (leaving (envOfC qual scope L' a cdv) x) (fun _ s'' => XRel c f X η s η' x s'') E s' := by
  obtain ⟨e, rfl, _⟩ := id h
  unfold leaving
  refine wpAny_bind (wpAny_mono (XRel.note (M := model c.prog c.w) ok' R' h) (fun _ s₂ h₂ => ?_) fun _ _ q => q)
  refine ea2_5 h₂ fun B a0 k k1 k2 k3 k4 => ?_; try clear h₂
  refine x_flight (fr := none) k1 k2 k3 k4 fun h₃ x1 x2 x3 x4 => ?_
  have up : s₂.heap.UpToSlots h₃ := fun b o e d => ⟨o.slots, x4 b o e d⟩
  refine ea0_3 x2 fun _ _ x2' => ?_; try clear x2
  refine ⟨e, rfl, .inr ⟨B, a0, _, ⟨k.hB, fun b o e n1 n2 n3 => k.kp b o (hk₁ b o e) n1 (new b o e) fun hm => ?_, fun a ao hm => ?_, k.nd, fun b o hb e => ?_, t₁.trans (k.stp.trans (.heap (.slots up))), fun b hb => (k.dom b hb).imp id fun q => by
    cases e : s.heap.get? b with
    | none => rfl
    | some o => rw [hk₁ b o e] at q; cases q⟩, x1, k2, x2', x3⟩⟩
  · rcases List.mem_filterMap.mp hm with ⟨env', he, hf⟩
    rcases List.mem_cons.mp he with rfl | he
    · rw [f.frame] at hf; cases hf; exact n2 (.inl rfl)
    · exact n3 (List.mem_filterMap.mpr ⟨env', he, hf⟩)
  · refine ea1_4 (k.objs a ao hm) fun o e1 n1 n2 hc => ?_
    refine ⟨o, e1, fun w => ?_, ?_, hc.mono (.slots up)⟩
    · refine ea1_1 (own a w) fun o' e' => ?_
      rw [show g.get? a = none from n2] at e'; cases e'
    · cases q : f.h₀.get? a with
      | none => rfl
      | some o' => have := st a o' q; rw [show g.get? a = none from n2] at this; cases this
  · obtain ⟨sl, e1⟩ := k.ups b o (List.mem_filterMap.mpr (by refine ea1_2 (List.mem_filterMap.mp hb) fun env' he hf => ?_; exact ⟨env', List.mem_cons_of_mem _ he, hf⟩)) (hk₁ b o e)
    refine ea1_1 (R.fr) fun m F => ?_
    refine ea1_2 (ok.frs_data hb) fun o' e' d' => ?_
    have := F.keep _ _ e'
    rw [e] at this; cases this
    exact ⟨sl, x4 b _ e1 d'⟩

theorem FnC.core {name qual : Str} {params : Arguments} {body : List Stmt} {scope : Scope} {dV kV doc pm cdv ct oc : Value} {an od : Option Addr} {osl : Array (Option Value)}
    (ho : c.K.lookup a = some ⟨oc, od, .func (fnOf name qual params body scope dV kV doc pm an cdv ct), osl⟩) (hcd : codeIn c.K cdv qual = true)
    (ps : List Str) (hl : args.length = ps.length) (hbind : ∀ s vs, vs.length = ps.length → BindsTo s (fnOf name qual params body scope dV kV doc pm an cdv ct) ⟨vs, []⟩ (ps.zip vs))
    (hps : ps.Nodup) (hkind : (ps.all fun y => scope.names.lookup y == some .local || scope.names.lookup y == some .cell) = true)
    (hco : scope.isCoroutine = false) (hgen : scope.isGenerator = false) (hk : scope.kind = .function)
    {vs : List Value} {E : Value → Shared → Prop} (ok : FOk c f (n + 1)) (R : Rel c f env ρ η s) (r : RvAll s.heap vs args)
    (hb : ∀ (L' : Addr) (g h₁ : Heap) (tk : Nat), FOk c (f.down qual scope L' a cdv g) n → Rel c (f.down qual scope L' a cdv g) (f.down qual scope L' a cdv g).env (ps.zip args) η { s with heap := h₁, toks := tk } → f.h₀.StaysIn g →
      (∀ b o, s.heap.get? b = some o → h₁.get? b = some o) → (∀ b, f.Own b → ∃ o, g.get? b = some o) → (∀ b o, s.heap.get? b = some o → ¬ (f.down qual scope L' a cdv g).Own b) →
      (∀ s' v av ρ' η', Rel c (f.down qual scope L' a cdv g) (f.down qual scope L' a cdv g).env ρ' η' s' → Stp (f.down qual scope L' a cdv g) (f.down qual scope L' a cdv g).env η η' { s with heap := h₁, toks := tk } s' → Rv s'.heap v av → Φ av η' → Post c f env ρ η s Φ v s') →
      wpAny (model c.prog c.w) (f.down qual scope L' a cdv g).A (execs body (f.down qual scope L' a cdv g).env) (fun fl s' => Post c f env ρ η s Φ (match fl with | .ret v => v | _ => .none) s')
        (fun e s' => wpAny (model c.prog c.w) (f.down qual scope L' a cdv g).A (leaving (envOfC qual scope L' a cdv) e) (fun _ s'' => E e s'') (fun e' s'' => E e' s'') s') { s with heap := h₁, toks := tk }) :
    codeAny (model c.prog c.w) f.A (.call (.ref a) ⟨vs, []⟩) (fun r s' => match r with | .ok (.ret v) => Post c f env ρ η s Φ v s' | .ok _ => False | .error e => E e s') s := by
  refine ea1_4 (R.ledger) fun nw N ek ko kt => ?_
  refine ea1_1 (id R.fr) fun m F => ?_
  have hvl : vs.length = ps.length := r.length.trans hl
  have hzk : (ps.zip vs).map (·.1) = ps := List.map_fst_zip (Nat.le_of_eq hvl.symm)
  have hkd : ∀ x ∈ ps.zip vs, scope.names.lookup x.1 = some .local ∨ scope.names.lookup x.1 = some .cell := fun x hx => by
    have := List.all_eq_true.mp hkind x.1 (hzk ▸ List.mem_map_of_mem (f := (·.1)) hx)
    simpa using this
  refine (call_ev ok.B F N ok.T.nolimit rfl rfl ok.hk (F.keep _ _ (ok.X _ _ ho)) rfl (codeRec_of (ok.X.keeps F.keep) hcd) (by show f.dp < 1000; have := ok.hd; lia) (hbind s vs hvl)
    (fun k x hx => (hkd x hx).imp id fun q => ⟨q, cellsFrom_some _ _ _ (.inl q)⟩) ?_ hco hgen hk)
  intro h₁ tk FG F' hk₁ hc B' st lv
  have notIn : ∀ b o, s.heap.get? b = some o → ((∃ v, o.data = .cell v) ∨ (∃ vs n, o.data = .seq vs n ∧ o.cls = .type "tuple") ∨ b = env.locals) → (hideAll s.heap (nw.map (·.1))).get? b = some o := fun b o e hh => by
    refine hideAll_get _ e fun hm => ?_
    refine ea1_2 (List.mem_map.mp hm) fun p hp yq2 => ?_; subst yq2
    have e' := (N p hp).1
    rw [e] at e'; cases e'
    refine ea0_3 (kt p hp) fun k1 k2 k3 => ?_
    rcases hh with ⟨v, q⟩ | ⟨vs, n, q1, q2⟩ | q
    · exact k1 v q
    · rcases k2 vs n with z | z
      · exact z q1
      · exact z q2
    · exact k3 q
  have ok' : FOk c (f.down qual scope s.heap.objs.size a cdv (hideAll s.heap (nw.map (·.1)))) n :=
    ⟨B', ok.X.keeps st, ok.T.keeps st, hk, by have := ok.hd; show f.dp + 1 + n < 900; lia, by have := ok.hu; show f.un + 3 + 8 * n + 1000 < 9000; lia⟩
  have tk₁ : Tk s.heap h₁ := .of_keep hk₁
  have R' : Rel c (f.down qual scope s.heap.objs.size a cdv (hideAll s.heap (nw.map (·.1)))) (f.down qual scope s.heap.objs.size a cdv (hideAll s.heap (nw.map (·.1)))).env (ps.zip args) η { s with heap := h₁, toks := tk } := by
    refine ⟨⟨_, F'⟩, ⟨_, F'.ns⟩, fun x av e => ?_, fun b bo hm => ?_, R.nd, fun x cl e => ⟨_, hc x cl e⟩, fun b hb => ?_⟩
    · refine ea1_2 (r.zip x av e) fun v ev rv => ?_
      refine ⟨v, ?_, rv.mono tk₁⟩
      rcases hkd (x, v) (mem_of_lookup ev) with k | k
      · exact .inl ⟨k, _, F'.ns, bindL_local _ _ _ _ (by rw [hzk]; exact hps) ev k⟩
      · refine ea1_1 (Option.isSome_iff_exists.mp (cellsFrom_some (x := x) scope.names (s.heap.objs.size + 1) [] (.inl k))) fun cl ecl => ?_
        refine .inr ⟨.inl k, cl, ecl, ?_⟩
        have := hc x cl ecl
        rwa [bindC_cell _ _ _ _ (by rw [hzk]; exact hps) ev k] at this
    · refine ea1_4 (ko b bo hm) fun o hm' ne nO hcn => ?_
      have lt : b < s.heap.objs.size := Heap.lt_size (N _ hm').1
      exact ⟨o, hk₁ _ _ (N _ hm').1, (fun q => by
        rcases q with q | ⟨x, q⟩
        · exact Nat.ne_of_lt lt q
        · exact absurd (cellsFrom_above (s.heap.objs.size + 1) scope.names (s.heap.objs.size + 1) [] (fun _ h => nomatch h) (Nat.le_refl _) _ (mem_of_lookup (show (cellsFrom (s.heap.objs.size + 1) scope.names []).lookup x = some b from q))) (Nat.not_le.mpr (Nat.lt_succ_of_lt lt))), Nat.ne_of_lt lt, hideAll_none _ (List.mem_map_of_mem (f := (·.1)) hm'), hcn.mono tk₁⟩
    · refine ea1_2 (List.mem_filterMap.mp hb) fun env' he hf => ?_
      rcases List.mem_cons.mp he with rfl | he
      · rw [f.frame] at hf; cases hf
        refine ea3_2 (FG.ns) fun oL _ _ eL _ => ?_; exact ⟨oL, eL⟩
      · refine ea1_1 (R.frs b (List.mem_filterMap.mpr ⟨env', he, hf⟩)) fun o e => ?_; exact ⟨o, st _ _ e⟩
  have own : ∀ b, f.Own b → ∃ o, (hideAll s.heap (nw.map (·.1))).get? b = some o := fun b w => by
    rcases w with rfl | ⟨x, w⟩
    · refine ea3_2 (FG.ns) fun oL _ _ eL _ => ?_; exact ⟨oL, eL⟩
    · refine ea2_2 (R.cells x b w) fun v o e d => ?_
      exact ⟨o, notIn b o e (.inl ⟨v, d⟩)⟩
  have new : ∀ b o, s.heap.get? b = some o → ¬ (f.down qual scope s.heap.objs.size a cdv (hideAll s.heap (nw.map (·.1)))).Own b := fun b o e q => by
    have lt := Heap.lt_size e
    rcases q with q | ⟨x, q⟩
    · exact Nat.ne_of_lt lt q
    · exact absurd (cellsFrom_above (s.heap.objs.size + 1) scope.names (s.heap.objs.size + 1) [] (fun _ h => nomatch h) (Nat.le_refl _) _ (mem_of_lookup (show (cellsFrom (s.heap.objs.size + 1) scope.names []).lookup x = some b from q))) (Nat.not_le.mpr (Nat.lt_succ_of_lt lt))
  have back : ∀ s' v av ρ' η', Rel c (f.down qual scope s.heap.objs.size a cdv (hideAll s.heap (nw.map (·.1)))) (f.down qual scope s.heap.objs.size a cdv (hideAll s.heap (nw.map (·.1)))).env ρ' η' s' →
      Stp (f.down qual scope s.heap.objs.size a cdv (hideAll s.heap (nw.map (·.1)))) (f.down qual scope s.heap.objs.size a cdv (hideAll s.heap (nw.map (·.1)))).env η η' { s with heap := h₁, toks := tk } s' → Rv s'.heap v av → Φ av η' → Post c f env ρ η s Φ v s' := by
    intro s' v av ρ' η' R₂ t₂ r₂ k₂
    refine ea1_1 (R₂.fr) fun m₂ F₂ => ?_
    refine ea1_4 (R₂.ledger) fun nw₂ N₂ ek₂ ko₂ kt₂ => ?_
    refine lv v s' (leaveK_ F₂ N₂ fun F₃ N₃ => ?_)
    refine ea3_1 (t₂.is) fun h₂ tk₂ d₂ yq3 => ?_; subst yq3
    have inG : ∀ b o, s.heap.get? b = some o → b ∉ η.map (·.1) → h₂.get? b = some o := fun b o e n => F₂.keep b o (hideAll_get _ e (ek ▸ n))
    have noOwn : ∀ b, f.Own b → b ∉ η.map (·.1) := fun b w h => by
      obtain ⟨⟨b', bo⟩, hm, rfl⟩ := List.mem_map.mp h
      obtain ⟨_, _, n1, _⟩ := R.objs _ _ hm
      exact n1 w
    refine ⟨av, η', ⟨⟨_, F₃⟩, ?_, fun x ax e => ?_, fun b bo hm => ?_, R₂.nd, fun x cl e => ?_, R.frs⟩, ⟨⟨tk₁.trans t₂.tk, _, _, _, rfl⟩, fun b o e n _ => inG b o e n, fun b hb => ?_, fun b o w e => ⟨o, inG b o e (noOwn b w)⟩⟩, r₂, k₂⟩
    · refine ea4_2 (R.ns) fun me oe es ep e1 e2 => ?_
      exact ⟨me, oe, es, ep, F₂.keep _ _ (notIn _ _ e1 (.inr (.inr rfl))), e2⟩
    · refine ea1_2 (R.names x ax e) fun u a1 a2 => ?_
      refine ⟨u, ?_, a2.mono (tk₁.trans t₂.tk)⟩
      rcases a1 with ⟨k1, m1, ⟨oe, es, ep, e1, e2⟩, ex⟩ | ⟨k1, cl, ecl, oc', e1, d1⟩
      · exact .inl ⟨k1, m1, ⟨oe, es, ep, F₂.keep _ _ (notIn _ _ e1 (.inr (.inr rfl))), e2⟩, ex⟩
      · exact .inr ⟨k1, cl, ecl, oc', F₂.keep _ _ (notIn _ _ e1 (.inl ⟨_, d1⟩)), d1⟩
    · refine ea1_4 (ko₂ b bo hm) fun o hm' _ _ hcn => ?_
      refine ea4_2 (R.ns) fun me oe es ep e1 e2 => ?_
      have gn : (hideAll s.heap (nw.map (·.1))).get? b = none := (N₂ _ hm').2.2
      refine ⟨o, (N₃ _ hm').1, fun q => ?_, fun q => ?_, (N₃ _ hm').2.2, hcn⟩
      · rcases q with q | ⟨x, q⟩
        · exact (N₃ _ hm').2.1 q
        · refine ea2_2 (R.cells x b q) fun u oc' e1 d1 => ?_
          have z := notIn _ _ e1 (.inl ⟨_, d1⟩)
          rw [gn] at z; cases z
      · have z := notIn _ _ e1 (.inr (.inr rfl))
        subst q
        rw [gn] at z; cases z
    · refine ea2_2 (R.cells x cl e) fun u oc' e1 d1 => ?_
      exact ⟨u, oc', F₂.keep _ _ (notIn _ _ e1 (.inl ⟨_, d1⟩)), d1⟩
    · rcases t₂.dom b hb with q | q
      · exact .inl q
      · refine .inr ?_
        cases e : s.heap.get? b with
        | none => rfl
        | some o => rw [show h₁.get? b = some o from hk₁ b o e] at q; cases q
  exact hb s.heap.objs.size (hideAll s.heap (nw.map (·.1))) h₁ tk ok' R' st hk₁ own new back
theorem FnC.intro {name qual : Str} {params : Arguments} {body : List Stmt} {scope : Scope} {dV kV doc pm cdv ct oc : Value} {an od : Option Addr} {osl : Array (Option Value)}
    (ho : c.K.lookup a = some ⟨oc, od, .func (fnOf name qual params body scope dV kV doc pm an cdv ct), osl⟩) (hcd : codeIn c.K cdv qual = true)
    (ps : List Str) (hl : args.length = ps.length) (hbind : ∀ s vs, vs.length = ps.length → BindsTo s (fnOf name qual params body scope dV kV doc pm an cdv ct) ⟨vs, []⟩ (ps.zip vs))
    (hps : ps.Nodup) (hkind : (ps.all fun y => scope.names.lookup y == some .local || scope.names.lookup y == some .cell) = true)
    (hco : scope.isCoroutine = false) (hgen : scope.isGenerator = false) (hk : scope.kind = .function)
    (hb : ∀ f' : Fx, f'.cn = qual → f'.cs = scope → f'.a = a → f'.ccd = cdv → FOk c f' n → Exs c f' f'.env body (ps.zip args) η (fun _ η' => Φ .none η') Φ Ψ) : FnC c a (n + 1) args η Φ Ψ := by
  intro f env ρ vs s E ok R r hE
  refine FnC.core (c := c) ho hcd ps hl hbind hps hkind hco hgen hk ok R r fun L' g h₁ tk ok' R' st hk₁ own new back => ?_
  have tk₁ : Tk s.heap h₁ := .of_keep hk₁
  refine wpAny_mono (hb (f.down qual scope L' a cdv g) rfl rfl rfl rfl ok' { s with heap := h₁, toks := tk } _ R' fun x η' s' hx hp => ?_) (fun fl s' hp => ?_) fun _ _ x => x
  · exact wpAny_mono (XRel.leave (ok.le (Nat.le_succ n)) R ok' R' st (.heap tk₁) hk₁ own new hx) (fun _ s'' x1 => hE x η' s'' x1 hp) fun _ _ q => q
  · rcases hp with ⟨rfl, ρ', η', R₂, t₂, k₂⟩ | ⟨v, rfl, av, ρ', η', R₂, t₂, r₂, k₂⟩
    · exact back s' .none .none ρ' η' R₂ t₂ .none k₂
    · exact back s' v av ρ' η' R₂ t₂ r₂ k₂
end
/-- I walks over the items; wr are the objects that turn with it; dep is the object of the store that it leans on -/
structure ItOk (c : Cx) (f : Fx) (tg : Expr) (I : Addr) (wr : List Addr) (items : List AV) (dep : Option (Addr × AObj)) (It : Nat → Heap → Prop) : Prop where
  item : ∀ i (s : Shared) (Q : Option Value → Shared → Prop) (E : Value → Shared → Prop), i < items.length → It i s.heap →
    (∀ v d h' tk, items[i]? = some d → Rv h' v d → (∀ b ∈ wr, ∃ o, h'.get? b = some o ∧ ∃ vs, o.data = .fields vs) → (∀ (s' : Shared) (Q : Unit → Shared → Prop) (E : Value → Shared → Prop), s'.heap = h' → (∀ h'', It (i + 1) h'' → (∀ b o, b ∉ wr → h'.get? b = some o → h''.get? b = some o) → Q () { s' with heap := h'' }) → wpAny (model c.prog c.w) f.A (letOwnedTupleGo tg (.ref I) v) Q E s') → (∀ b o, b ∉ wr → s.heap.get? b = some o → h'.get? b = some o) → Q (some v) { s with heap := h', toks := tk }) → wpAny (model c.prog c.w) f.A (pyNext (.ref I)) Q E s
  done : ∀ (s : Shared) (Q : Option Value → Shared → Prop) (E : Value → Shared → Prop), It items.length s.heap →
    (∀ h' tk, (∀ b o, b ∉ wr → s.heap.get? b = some o → h'.get? b = some o) → Q none { s with heap := h', toks := tk }) → wpAny (model c.prog c.w) f.A (pyNext (.ref I)) Q E s
  self : ∀ i (s : Shared) (Q : Value → Shared → Prop) (E : Value → Shared → Prop), It i s.heap → Q (.ref I) s → wpAny (model c.prog c.w) f.A (pyIter (.ref I)) Q E s
  cl : ∀ i h h', It i h → (∀ b ∈ wr, ∀ o, h.get? b = some o → h'.get? b = some o) → Tk h h' → (∀ a ao, dep = some (a, ao) → ∃ o, h'.get? a = some o ∧ Conc c h' o ao) → It i h'
  ob : ∀ i h, It i h → ∀ b ∈ wr, ∃ o, h.get? b = some o ∧ ∃ vs, o.data = .fields vs
/-- the store bears what the iterator leans on -/
noncomputable def Dep (dep : Option (Addr × AObj)) (η : Store) : Prop := ∀ p, dep = some p → p ∈ η
/-- a value that is walked over; what of the store goes into the iterator is no longer of it -/
noncomputable def Src (c : Cx) (f : Fx) (tg : Expr) (a : AV) (η η' : Store) (items : List AV) (dep : Option (Addr × AObj)) : Prop :=
  ∀ (s : Shared) (v : Value) (env : Env) (ρ : Locals) (Q : Value → Shared → Prop) (E : Value → Shared → Prop), Rel c f env ρ η s → Rv s.heap v a → Dep dep η' →
    ((∀ p ∈ η', p ∈ η) → (η'.map (·.1)).Nodup → ∀ I wr It h' tk, ItOk c f tg I wr items dep It → It 0 h' → (∀ b ∈ wr, s.heap.get? b = none ∨ (b ∈ η.map (·.1) ∧ b ∉ η'.map (·.1))) → (∀ b o, s.heap.get? b = some o → h'.get? b = some o) → Q (.ref I) { s with heap := h', toks := tk }) → wpAny (model c.prog c.w) f.A (pyIter v) Q E s

section
variable {c : Cx} {f : Fx}
theorem tk_but {h h' : Heap} {wr : List Addr} (k : ∀ b o, b ∉ wr → h.get? b = some o → h'.get? b = some o) (ob : ∀ b ∈ wr, ∃ o, h.get? b = some o ∧ ∃ vs, o.data = .fields vs) : Tk h h' := fun a ws t => by
  have ne : a ∉ wr := fun hm => by
    refine ea1_2 (ob a hm) fun o e zq1 => ?_; refine ea1_1 zq1 fun vs d => ?_; clear zq1
    exact IsTup.ne t e (fun _ _ => .inl (by rw [d]; intro q; cases q)) rfl
  refine ea1_2 t fun o' e' r => ?_; try clear t
  exact ⟨o', k a o' ne e', r⟩
theorem lgo_plain {I : Addr} {target : Expr} {v : Value} {s : Shared} {T : String} {vs : Array Value} {o : Obj} {M : Model} {A : Around} {Q : Unit → Shared → Prop} {E : Value → Shared → Prop} (e : s.heap.get? I = some o) (hc : o.cls = .type T) (hd : o.data = .fields vs)
    (hT : (["enumerate", "zip", "dict_itemiterator", "dict_reverseitemiterator", "odict_iterator", "itertools.zip_longest", "itertools.pairwise"].contains T) = false) (h : Q () s) : wpAny M A (letOwnedTupleGo target (.ref I) v) Q E s := by
  have key : ∀ a, wpAny M A (do
      let o ← load I
      match o.cls, o.data with
      | .type n, .fields vs =>
        if ["enumerate", "zip", "dict_itemiterator", "dict_reverseitemiterator", "odict_iterator", "itertools.zip_longest", "itertools.pairwise"].contains n && vs[0]? == some (rawInt a) then
          rule "for.unpacks-the-owned-tuple"
          updateField I 0 .none
      | _, _ => pure ()) Q E s := fun a => by
    refine wpAny_bind (wpAny_load e ?_)
    rw [hc, hd]
    simp only [hT, Bool.false_and, Bool.false_eq_true, if_false]
    exact wpAny_pure h
  cases target with
  | Tuple => cases v with
    | ref a => exact key a
    | _ => exact wpAny_pure h
  | List => cases v with
    | ref a => exact key a
    | _ => exact wpAny_pure h
  | _ => exact wpAny_pure h
noncomputable abbrev one (I : Addr) : List Addr := [I]
theorem one_ne {I b : Addr} : b ∉ [I] ↔ b ≠ I := by simp
theorem Src.tup {tg : Expr} {l : List AV} {η : Store} : Src c f tg (.tup l) η η l none := by
  intro s v env ρ Q E R r _ hQ
  (apply Rv.eTup r; intro ax vs t r)
  have lt : ax < s.heap.objs.size := by refine ea1_2 t fun _ e _ => ?_; try clear t; exact Heap.lt_size e
  have W := Walks.tuple (prog := c.prog) (w := c.w) (A := f.A) rfl s.heap.objs.size ax (Nat.ne_of_lt lt) vs.toArray
  have hl : vs.toArray.size = l.length := by rw [List.size_toArray, r.length]
  refine wpAny_pyIter_tuple (items := vs.toArray) t (hQ (fun _ h => h) R.nd s.heap.objs.size [s.heap.objs.size] (fun i h => (h.IsTupleIter s.heap.objs.size ax i ∧ h.IsTuple ax vs.toArray) ∧ RvAll h vs l) _ s.toks ?_ ⟨⟨⟨_, Heap.get?_push_size _ rfl, rfl, rfl⟩, Tk.of_keep (fun _ _ e => Heap.get?_push_of_some _ e) _ _ t⟩, r.mono (Tk.of_keep fun _ _ e => Heap.get?_push_of_some _ e)⟩ (fun b hb => .inl (List.mem_singleton.mp hb ▸ Heap.get?_none_of_le (Nat.le_refl _))) fun _ _ e => Heap.get?_push_of_some _ e)
  have ob : ∀ i h, ((h.IsTupleIter s.heap.objs.size ax i ∧ h.IsTuple ax vs.toArray) ∧ RvAll h vs l) → ∀ b ∈ [s.heap.objs.size], ∃ o, h.get? b = some o ∧ ∃ vs, o.data = .fields vs := fun i h st b hb => by
    rw [List.mem_singleton.mp hb]
    refine ea1_3 (st.1.1) fun oI eI cI dI => ?_; exact ⟨oI, eI, _, dI⟩
  refine ⟨fun i s Q E hi st hQ => ?_, fun s Q E st hQ => ?_, fun i s Q E st hQ => W.self i s Q E st.1 hQ, fun i h h' st k1 k2 _ => ⟨⟨?_, k2 _ _ st.1.2⟩, st.2.mono k2⟩, ob⟩
  · refine W.item i s Q E (by rw [hl]; exact hi) st.1 fun v h' tk hv st' k => ?_
    have tk' := tk_but k (ob i _ st)
    obtain ⟨d, hd, rd⟩ := st.2.get' (by simpa using hv)
    have st₂ := And.intro st' (st.2.mono tk')
    refine hQ v d h' tk hd (rd.mono tk') (ob _ _ st₂) (fun s' Q E q hQ' => ?_) k
    subst q
    refine ea1_3 (st'.1) fun oI eI cI dI => ?_
    exact lgo_plain eI cI dI (by decide) (hQ' s'.heap st₂ fun _ _ _ e => e)
  · exact W.done s Q E (by rw [hl]; exact st.1) hQ
  · refine ea1_3 (st.1.1) fun oI eI cI dI => ?_; exact ⟨oI, k1 _ (List.mem_singleton.mpr rfl) _ eI, cI, dI⟩
theorem Src.list {tg : Expr} {a : Addr} {l : List AV} {η : Store} : Src c f tg (.val (.ref a)) η η l (some (a, .list l)) := by
  intro s v env ρ Q E R r hd hQ
  first | apply Rv.eVal r | (apply Rv.eInt r; intro _) | (apply Rv.eStr r; intro _) | apply Rv.eBool r | cases r
  obtain ⟨oa, ea, no, nl, n0, vs, n, rfl, r⟩ := R.objs _ _ (hd _ rfl)
  have lt : a < s.heap.objs.size := Heap.lt_size ea
  refine wpAny_pyIter_list (items := vs.toArray) ⟨_, ea, rfl, _, rfl⟩ (hQ (fun _ h => h) R.nd s.heap.objs.size [s.heap.objs.size] (fun i h => h.IsListIter s.heap.objs.size a i ∧ ∃ o, h.get? a = some o ∧ Conc c h o (.list l)) _ s.toks ?_ ⟨⟨_, Heap.get?_push_size _ rfl, rfl, rfl⟩, _, Heap.get?_push_of_some _ ea, vs, n, rfl, r.mono (Tk.of_keep fun _ _ e => Heap.get?_push_of_some _ e)⟩ (fun b hb => .inl (List.mem_singleton.mp hb ▸ Heap.get?_none_of_le (Nat.le_refl _))) fun _ _ e => Heap.get?_push_of_some _ e)
  have ob : ∀ i h, (h.IsListIter s.heap.objs.size a i ∧ ∃ o, h.get? a = some o ∧ Conc c h o (.list l)) → ∀ b ∈ [s.heap.objs.size], ∃ o, h.get? b = some o ∧ ∃ vs, o.data = .fields vs := fun i h st b hb => by
    rw [List.mem_singleton.mp hb]
    refine ea1_3 (st.1) fun oI eI cI dI => ?_; exact ⟨oI, eI, _, dI⟩
  refine ⟨fun i s Q E hi st hQ => ?_, fun s Q E st hQ => ?_, fun i s Q E st hQ => wpAny_pyIter_listiter st.1 hQ, fun i h h' st k1 k2 k3 => ⟨?_, k3 _ _ rfl⟩, ob⟩
  · obtain ⟨o, eo, vs, n, rfl, r⟩ := st.2
    have W := Walks.list (prog := c.prog) (w := c.w) (A := f.A) rfl _ a (Nat.ne_of_lt lt) vs.toArray
    refine W.item i s Q E (by rw [List.size_toArray, r.length]; exact hi) ⟨st.1, _, eo, rfl, _, rfl⟩ fun v h' tk hv st' k => ?_
    have tk' := tk_but k (ob i _ st)
    obtain ⟨d, hd, rd⟩ := r.get' (by simpa using hv)
    have st₂ := And.intro st'.1 (show ∃ o, h'.get? a = some o ∧ Conc c h' o (.list l) from ⟨_, k a _ (by simpa using Nat.ne_of_lt lt) eo, vs, n, rfl, r.mono tk'⟩)
    refine hQ v d h' tk hd (rd.mono tk') (ob _ _ st₂) (fun s' Q E q hQ' => ?_) k
    subst q
    refine ea1_3 (st'.1) fun oI eI cI dI => ?_
    exact lgo_plain eI cI dI (by decide) (hQ' s'.heap st₂ fun _ _ _ e => e)
  · obtain ⟨o, eo, vs, n, rfl, r⟩ := st.2
    have W := Walks.list (prog := c.prog) (w := c.w) (A := f.A) rfl _ a (Nat.ne_of_lt lt) vs.toArray
    have hz : vs.toArray.size = l.length := by rw [List.size_toArray, r.length]
    exact W.done s Q E ⟨hz ▸ st.1, _, eo, rfl, _, rfl⟩ hQ
  · refine ea1_3 (st.1) fun oI eI cI dI => ?_; exact ⟨oI, k1 _ (List.mem_singleton.mpr rfl) _ eI, cI, dI⟩
noncomputable abbrev rangeO (a b : Int) (t u v : Tok) : Obj := { cls := .type "range", dict := none, data := .fields #[.int a t, .int b u, .int 1 v], slots := #[] }
theorem Src.range {tg : Expr} {r : Addr} {a : Int} {n : Nat} {t u v : Tok} {η : Store} (h1 : -1000000 ≤ a) (h2 : a ≤ 1000000) (h3 : n ≤ 1000000) :
    Src c f tg (.val (.ref r)) η η ((_root_.List.range n).map fun (i : Nat) => AV.int (a + (i : Int))) (some (r, .raw (rangeO a (a + n) t u v))) := by
  intro s vv env ρ Q E R rr hd hQ
  cases rr
  obtain ⟨oa, ea, no, nl, n0, rfl, _⟩ := R.objs _ _ (hd _ rfl)
  have hn : Builtin.Range.rangeSize a (a + n) 1 = ((n : Nat) : Int) := by rw [rangeSize_nat]; lia
  refine wpAny_pyIter_range ea (small_one (by lia) (by lia) (by lia) (by lia)) (hQ (fun _ h => h) R.nd s.heap.objs.size [s.heap.objs.size] (fun i h => IsRangeIter h s.heap.objs.size (a + (i : Nat) * 1) ((n : Int) - (i : Nat)) 1) _ s.toks ?_ ?_ (fun b hb => .inl (List.mem_singleton.mp hb ▸ Heap.get?_none_of_le (Nat.le_refl _))) fun _ _ e => Heap.get?_push_of_some _ e)
  · have W := Walks.range (prog := c.prog) (w := c.w) (A := f.A) rfl s.heap.objs.size a 1 n
    refine ⟨fun i s Q E hi st hQ => ?_, fun s Q E st hQ => ?_, fun i s Q E st hQ => W.self i s Q E st hQ, fun i h h' st k1 k2 k3 => k1 _ (List.mem_singleton.mpr rfl) _ st, fun i h st b hb => ⟨_, List.mem_singleton.mp hb ▸ st, _, rfl⟩⟩
    · rw [List.length_map, _root_.List.length_range] at hi
      refine W.item i s Q E hi st fun v h' tk hv st' k => ?_
      refine ea1_1 hv fun t yq2 => ?_; try clear hv; subst yq2
      refine hQ _ (.int (a + (i : Int))) h' tk (by rw [List.getElem?_map, _root_.List.getElem?_range hi]; rfl) (by rw [Int.mul_one]; exact .int _ _) (fun b hb => ⟨_, List.mem_singleton.mp hb ▸ st', _, rfl⟩) (fun s' Q E q hQ' => ?_) k
      subst q
      exact lgo_plain st' rfl rfl (by decide) (hQ' s'.heap st' fun _ _ _ e => e)
    · rw [List.length_map, _root_.List.length_range] at st
      exact W.done s Q E st hQ
  · show IsRangeIter _ _ _ _ _
    rw [hn]
    simpa using Heap.get?_push_size _ rfl
end
/-- the target takes the value apart into these names -/
noncomputable def Asg (c : Cx) (f : Fx) (env : Env) (target : Expr) (d : AV) (prs : Locals) : Prop :=
  ∀ (s : Shared) (v : Value) (m : Str → Option Value) (Q : Unit → Shared → Prop) (E : Value → Shared → Prop), Rv s.heap v d → s.heap.Ns env.locals m →
    (∀ h' tk m', h'.Ns env.locals m' → (∀ y, prs.lookup y = none → m' y = m y) → (∀ x e, prs.lookup x = some e → env.kindOf x = some .local ∧ ∃ u, m' x = some u ∧ Rv s.heap u e) → (∀ b o, b ≠ env.locals → s.heap.get? b = some o → h'.get? b = some o) → Q () { s with heap := h', toks := tk }) →
    wpAny (model c.prog c.w) f.A (assign target env v) Q E s
theorem Asg.name {c : Cx} {f : Fx} {env : Env} {x : Str} {pos : Pos} {d : AV} (hx : env.kindOf x = some .local) (hp : (env.scope.kind == .class || (env.scope.kind == .module && env.locals != env.globals)) = false) : Asg c f env (.Name x pos) d [(x, d)] := by
  intro s v m Q E r hn hQ
  refine wpAny_assign_Name (wpAny_storeName_local hx hn (fun h' hn' hs => hQ h' _ _ hn' (fun y e => ?_) (fun y e q => ?_) fun b o ne e => (hs.2 b ne).trans e) hp)
  · rw [List.lookup_cons] at e
    by_cases q : y = x
    · subst q; simp at e
    · simp [q]
  · rw [List.lookup_cons] at q
    by_cases z : y = x
    · subst z; simp only [beq_self_eq_true, Option.some.injEq] at q; subst q; exact ⟨hx, v, by simp, r⟩
    · have : (y == x) = false := beq_eq_false_iff_ne.mpr z
      simp [this] at q

theorem lookup_append {α : Type} {a b : List (Str × α)} {x : Str} : (a ++ b).lookup x = (a.lookup x).or (b.lookup x) := List.lookup_append
theorem Rel.asg {c : Cx} {f : Fx} {env : Env} {ρ : Locals} {η : Store} {s : Shared} (R : Rel c f env ρ η s) (nO : ¬ f.Own env.locals ∧ f.h₀.get? env.locals = none) {m m' : Str → Option Value} {h' : Heap} {tk : Nat} {prs : Locals} (hn : s.heap.Ns env.locals m) (hn' : h'.Ns env.locals m')
    (h1 : ∀ y, prs.lookup y = none → m' y = m y) (h2 : ∀ x e, prs.lookup x = some e → env.kindOf x = some .local ∧ ∃ u, m' x = some u ∧ Rv s.heap u e) (hk : ∀ b o, b ≠ env.locals → s.heap.get? b = some o → h'.get? b = some o) :
    Rel c f env (prs ++ ρ) η { s with heap := h', toks := tk } ∧ Tk s.heap h' := by
  refine ea1_1 (R.fr) fun mF F => ?_
  refine ea3_3 (id hn) fun oL es ep eL dL _ => ?_
  have tk' : Tk s.heap h' := fun a vs t => by
    have ne := IsTup.ne t eL fun _ _ => .inl (by rw [dL]; intro q; cases q)
    refine ea1_2 t fun o' e' r => ?_; try clear t
    exact ⟨o', hk a o' ne e', r⟩
  have neL : f.L ≠ env.locals := fun q => nO.1 (.inl q.symm)
  have keep₀ : ∀ b o, f.h₀.get? b = some o → h'.get? b = some o := fun b o e => hk b o (fun q => by subst q; rw [nO.2] at e; cases e) (F.keep b o e)
  refine ⟨⟨⟨mF, ⟨F.ns.at' fun o e => hk _ o neL e, keep₀, F.above⟩⟩, ⟨_, hn'⟩, fun x av e => ?_, fun a ao e => ?_, R.nd, fun x cl e => ?_, R.frs⟩, tk'⟩
  · rw [lookup_append] at e
    cases q : prs.lookup x with
    | some d =>
      rw [q] at e; simp only [Option.some_or, Option.some.injEq] at e; subst e
      refine ea0_2 (h2 x d q) fun k zq1 => ?_; refine ea1_2 zq1 fun u e1 r1 => ?_; clear zq1
      exact ⟨u, .inl ⟨k, _, hn', e1⟩, r1.mono tk'⟩
    | none =>
      rw [q] at e; simp only [Option.none_or] at e
      refine ea1_2 (R.names x av e) fun u a1 r1 => ?_
      refine ⟨u, ?_, r1.mono tk'⟩
      rcases a1 with ⟨k1, m1, n1, e1⟩ | ⟨k1, cl, ecl, i1⟩
      · exact .inl ⟨k1, _, hn', by rw [h1 x q, ← n1.agree hn x]; exact e1⟩
      · refine ea1_2 i1 fun oc e1 d1 => ?_; try clear i1
        exact .inr ⟨k1, cl, ecl, oc, hk _ _ (fun z => by rw [z, eL] at e1; cases e1; rw [dL] at d1; cases d1) e1, d1⟩
  · obtain ⟨o, e1, n1, n2, n3, hc⟩ := R.objs a ao e
    exact ⟨o, hk a o n2 e1, n1, n2, n3, hc.mono tk'⟩
  · refine ea2_2 (R.cells x cl e) fun u oc e1 d1 => ?_
    exact ⟨u, oc, hk _ _ (fun z => nO.1 (.inr ⟨x, z ▸ e⟩)) e1, d1⟩

/-- one object changes that the store does not tell of -/
theorem Rel.but {c : Cx} {f : Fx} {env : Env} {ρ : Locals} {η : Store} {s : Shared} (R : Rel c f env ρ η s) {X : Addr} {h' : Heap} {tk : Nat} {o : Obj} (e : s.heap.get? X = some o) (nc : ∀ v, o.data ≠ .cell v) (nt : ∀ vs n, o.data ≠ .seq vs n ∨ o.cls ≠ .type "tuple")
    (nη : X ∉ η.map (·.1)) (nO : ¬ f.Own X) (nl : X ≠ env.locals) (n0 : f.h₀.get? X = none) (k : ∀ b o, b ≠ X → s.heap.get? b = some o → h'.get? b = some o) : Rel c f env ρ η { s with heap := h', toks := tk } ∧ Tk s.heap h' := by
  refine ea1_1 (R.fr) fun mF F => ?_
  refine ea1_1 (R.ns) fun mE NE => ?_
  have tk' : Tk s.heap h' := fun a vs t => by
    have ne := IsTup.ne t e nt
    refine ea1_2 t fun o' e' r => ?_; try clear t
    exact ⟨o', k a o' ne e', r⟩
  have kc : ∀ cl v, s.heap.IsCell cl v → h'.IsCell cl v := fun cl v ⟨oc, e1, d1⟩ => ⟨oc, k _ _ (fun z => by subst z; rw [e] at e1; cases e1; exact nc _ d1) e1, d1⟩
  refine ⟨⟨⟨mF, F.ns.at' fun o e => k _ o (fun q => nO (.inl q.symm)) e, fun b o e₀ => k b o (fun q => by subst q; rw [n0] at e₀; cases e₀) (F.keep b o e₀), F.above⟩, ⟨mE, NE.at' fun o e => k _ o (Ne.symm nl) e⟩, fun x av ex => ?_, fun a ao ea => ?_, R.nd, fun x cl ex => ?_, R.frs⟩, tk'⟩
  · refine ea1_2 (R.names x av ex) fun v a1 r1 => ?_
    refine ⟨v, ?_, r1.mono tk'⟩
    rcases a1 with ⟨k1, m1, n1, e1⟩ | ⟨k1, cl, ecl, i1⟩
    · exact .inl ⟨k1, m1, n1.at' fun o e => k _ o (Ne.symm nl) e, e1⟩
    · exact .inr ⟨k1, cl, ecl, kc _ _ i1⟩
  · obtain ⟨oa, e1, n1, n2, n3, hc⟩ := R.objs a ao ea
    exact ⟨oa, k a oa (fun q => nη (q ▸ List.mem_map_of_mem (f := (·.1)) ea)) e1, n1, n2, n3, hc.mono tk'⟩
  · refine ea1_1 (R.cells x cl ex) fun u i => ?_; exact ⟨u, kc _ _ i⟩
theorem Stp.but {f : Fx} {env : Env} {η₁ η' : Store} {s₂ s : Shared} (t : Stp f env η₁ η' s₂ s) {X : Addr} {h' : Heap} {tk : Nat} (e2 : s₂.heap.get? X = none) (nO : ¬ f.Own X) (tk' : Tk s.heap h') (k : ∀ b o, b ≠ X → s.heap.get? b = some o → h'.get? b = some o) : Stp f env η₁ η' s₂ { s with heap := h', toks := tk } := by
  have nb : ∀ b o, s₂.heap.get? b = some o → b ≠ X := fun b o e q => by subst q; rw [e2] at e; cases e
  refine ⟨t.toStpX.trans (.heap tk'), fun b o e n1 n2 => k b o (nb b o e) (t.kp b o e n1 n2), t.dom, fun b o w e => ?_⟩
  refine ea1_1 (t.ex b o w e) fun o' e' => ?_
  exact ⟨o', k b o' (fun q => nO (q ▸ w)) e'⟩

/-- objects change that the store does not tell of -/
theorem Rel.buts {c : Cx} {f : Fx} {env : Env} {ρ : Locals} {η : Store} {s : Shared} (R : Rel c f env ρ η s) {wr : List Addr} {h' : Heap} {tk : Nat} (ob : ∀ b ∈ wr, ∃ o, s.heap.get? b = some o ∧ ∃ vs, o.data = .fields vs)
    (hw : ∀ b ∈ wr, b ∉ η.map (·.1) ∧ ¬ f.Own b ∧ b ≠ env.locals ∧ f.h₀.get? b = none) (k : ∀ b o, b ∉ wr → s.heap.get? b = some o → h'.get? b = some o) : Rel c f env ρ η { s with heap := h', toks := tk } ∧ Tk s.heap h' := by
  refine ea1_1 (R.fr) fun mF F => ?_
  refine ea1_1 (R.ns) fun mE NE => ?_
  have tk' : Tk s.heap h' := tk_but k ob
  have kc : ∀ cl v, s.heap.IsCell cl v → h'.IsCell cl v := fun cl v ⟨oc, e1, d1⟩ => ⟨oc, k _ _ (fun z => by refine ea1_2 (ob _ z) fun o e zq2 => ?_; refine ea1_1 zq2 fun vs d => ?_; clear zq2; rw [e1] at e; cases e; rw [d1] at d; cases d) e1, d1⟩
  have nm : ∀ {b} (P : (b ∉ η.map (·.1) ∧ ¬ f.Own b ∧ b ≠ env.locals ∧ f.h₀.get? b = none) → False), b ∉ wr := fun P hm => P (hw _ hm)
  refine ⟨⟨⟨mF, F.ns.at' fun o e => k _ o (nm fun q => q.2.1 (.inl rfl)) e, fun b o e₀ => k b o (nm fun q => by rw [q.2.2.2] at e₀; cases e₀) (F.keep b o e₀), F.above⟩, ⟨mE, NE.at' fun o e => k _ o (nm fun q => q.2.2.1 rfl) e⟩, fun x av ex => ?_, fun a ao ea => ?_, R.nd, fun x cl ex => ?_, R.frs⟩, tk'⟩
  · refine ea1_2 (R.names x av ex) fun v a1 r1 => ?_
    refine ⟨v, ?_, r1.mono tk'⟩
    rcases a1 with ⟨k1, m1, n1, e1⟩ | ⟨k1, cl, ecl, i1⟩
    · exact .inl ⟨k1, m1, n1.at' fun o e => k _ o (nm fun q => q.2.2.1 rfl) e, e1⟩
    · exact .inr ⟨k1, cl, ecl, kc _ _ i1⟩
  · obtain ⟨oa, e1, n1, n2, n3, hc⟩ := R.objs a ao ea
    exact ⟨oa, k a oa (nm fun q => q.1 (List.mem_map_of_mem (f := (·.1)) ea)) e1, n1, n2, n3, hc.mono tk'⟩
  · refine ea1_1 (R.cells x cl ex) fun u i => ?_; exact ⟨u, kc _ _ i⟩
theorem Stp.buts {f : Fx} {env : Env} {η₁ η' : Store} {s₂ s : Shared} (t : Stp f env η₁ η' s₂ s) {wr : List Addr} {h' : Heap} {tk : Nat} (e2 : ∀ b ∈ wr, s₂.heap.get? b = none ∨ b ∈ η₁.map (·.1)) (nO : ∀ b ∈ wr, ¬ f.Own b) (tk' : Tk s.heap h') (k : ∀ b o, b ∉ wr → s.heap.get? b = some o → h'.get? b = some o) : Stp f env η₁ η' s₂ { s with heap := h', toks := tk } := by
  refine ⟨t.toStpX.trans (.heap tk'), fun b o e n1 n2 => k b o (fun hm => ?_) (t.kp b o e n1 n2), t.dom, fun b o w e => ?_⟩
  · rcases e2 b hm with q | q
    · rw [e] at q; cases q
    · exact n1 q
  · refine ea1_1 (t.ex b o w e) fun o' e' => ?_
    exact ⟨o', k b o' (fun q => nO b q w) e'⟩
section
variable {prog : Program} {w : World} {A : Around} {E : Value → Shared → Prop} {R : Result → Shared → Prop} {s : Shared}
theorem codeAny_compLoop_any {elt target iter : Expr} {ifs : List Expr} {scope : Scope} {pos : Pos} {it acc : Value} {env : Env} (I : Nat → Shared → Prop)
    (turn : ∀ n s, I n s → wpAny (model prog w) A (pyNext it) (fun r s₁ => match r with
      | none => R (.ok .next) s₁
      | some v => wpAny (model prog w) A (letOwnedTupleGo target it v) (fun _ s₁' => wpAny (model prog w) A (assign target env v) (fun _ s₂ =>
          wpAny (model prog w) A (forIn ifs true fun c r => if r = true then do let ok ← isTrue c env (eval c env); pure (ForInStep.yield ok) else pure (ForInStep.yield r)) (fun ok s₃ =>
            if ok = true then wpAny (model prog w) A (eval elt env) (fun x s₄ =>
              wpAny (model prog w) A (call (.builtin "list.append") [acc, x]) (fun _ s₅ => ∃ m, m < n ∧ I m s₅) (notedBy (model prog w) A env fun e s' => R (.error e) s') s₄) (notedBy (model prog w) A env fun e s' => R (.error e) s') s₃
            else ∃ m, m < n ∧ I m s₃) (notedBy (model prog w) A env fun e s' => R (.error e) s') s₂) (notedBy (model prog w) A env fun e s' => R (.error e) s') s₁') (notedBy (model prog w) A env fun e s' => R (.error e) s') s₁) (notedBy (model prog w) A env fun e s' => R (.error e) s') s)
    (n : Nat) (h : I n s) :
    codeAny (model prog w) A (.compLoop (.ListComp elt [⟨target, iter, ifs, 0⟩] scope pos) 0 it acc env) R s := by
  refine codeAny_loop rfl I (fun n s hI => ?_) n h
  show wpAny _ A ((compTurn (.ListComp elt [⟨target, iter, ifs, 0⟩] scope pos) 0 it acc env).onRaise (fun x => do noteFrame x env; theTreesLotGoes x)) _ _ s
  refine wpAny_noted ?_
  rw [compTurn_list]
  refine wpAny_bind (wpAny_standAt (wpAny_bind (wpAny_mono (turn n s hI) (fun r s₁ h₁ => ?_) fun _ _ h' => h')))
  cases r with
  | none => exact wpAny_pure h₁
  | some v =>
    refine wpAny_bind (wpAny_mono h₁ (fun _ s₁' h₁' => ?_) fun _ _ h' => h')
    refine wpAny_bind (wpAny_mono h₁' (fun _ s₂ h₂ => wpAny_bind (wpAny_mono h₂ (fun ok s₃ h₃ => ?_) fun _ _ h' => h')) fun _ _ h' => h')
    cases ok with
    | false => exact wpAny_pure ⟨rfl, h₃⟩
    | true =>
      exact wpAny_bind (wpAny_bind (wpAny_mono h₃ (fun x s₄ h₄ => wpAny_bind (wpAny_mono h₄ (fun _ s₅ h₅ => wpAny_pure (wpAny_pure ⟨rfl, h₅⟩)) fun _ _ h' => h')) fun _ _ h' => h'))
end

/-- the block of a comprehension over these items -/
noncomputable def CompS (c : Cx) (f : Fx) (cenv : Env) (target : Expr) (ifs : List Expr) (elt : Expr) (ρ : Locals) (dep : Option (Addr × AObj)) (Φ : List AV → Store → Prop) (Ψ : Exc) : List AV → List AV → Store → Prop
  | [], acc, η => Φ acc η
  | d :: ds, acc, η => ∃ prs, Asg c f cenv target d prs ∧ match ifs with
    | [] => Ev c f cenv elt (prs ++ ρ) η (fun a η' => Dep dep η' ∧ CompS c f cenv target ifs elt ρ dep Φ Ψ ds (acc ++ [a]) η') Ψ
    | [t] => Tt c f cenv t (prs ++ ρ) η (fun b η' => Dep dep η' ∧ (b = true → Ev c f cenv elt (prs ++ ρ) η' (fun a η' => Dep dep η' ∧ CompS c f cenv target ifs elt ρ dep Φ Ψ ds (acc ++ [a]) η') Ψ) ∧ (b = false → CompS c f cenv target ifs elt ρ dep Φ Ψ ds acc η')) Ψ
    | _ => False

/-- an exception out of a block -/
theorem XRel.block {c : Cx} {f : Fx} {env envb : Env} {ρ ρb : Locals} {n : Nat} {X x : Value} {η₁ η η' : Store} {s₂ s s' : Shared} {C : Addr} {scope : Scope} {cl : List (Str × Addr)} {E : Value → Shared → Prop} {m : Str → Option Value} {use : Option (Value → Sem Unit)} {Q : Value → Shared → Prop} {acc : Value} (ok : FOk c f n)
    (R₂ : Rel c f env ρ η₁ s₂) (R : Rel c f envb ρb η s) (t : Stp f envb η₁ η s₂ s) (hC2 : s₂.heap.get? C = none) (h : XRel c f X η s η' x s') (hC : s.heap.Ns C m) (nC : C ∉ η.map (·.1)) (CO : ¬ f.Own C) (hE : ∀ s'', XRel c f X η₁ s₂ η' x s'' → E x s'') :
    notedBy (model c.prog c.w) f.A (compEnvC scope cl C f.env) (fun e s' => compPost (model c.prog c.w) f.A E use Q acc C (.error e) s') x s' := by
  obtain ⟨e, rfl, _⟩ := id h
  have CF : C ∉ f.Frs := fun hm => by
    refine ea1_1 (R₂.frs C hm) fun o e => ?_
    refine ea1_1 (R₂.fr) fun mF F => ?_
    rw [F.keep _ _ e] at hC2; cases hC2
  unfold notedBy
  refine wpAny_mono (show wpAny (model c.prog c.w) f.A (noteFrame (.ref e) (compEnvC scope cl C f.env)) _ _ s' from XRel.note ok R h) (fun _ s₂' h₂ => ?_) fun _ _ q => q
  refine ea2_5 h₂ fun B a0 k k1 k2 k3 k4 => ?_; try clear h₂
  refine ea3_3 hC fun oC es ep eC dC rC => ?_; try clear hC
  have eB := k.kp C oC eC nC CO CF
  have eC₂ := k1 _ _ eB
  have Cn : C ∉ η'.map (·.1) := fun hm => by
    rcases k.dom _ hm with q | q
    · exact nC q
    · rw [eC] at q; cases q
  refine ⟨m, ⟨oC, es, ep, eC₂, dC, rC⟩, fun h₃ hs₃ cenv' hl => ?_⟩
  have keep : ∀ b o, b ≠ C → s₂'.heap.get? b = some o → h₃.get? b = some o := fun b o ne e => (hs₃.2 b ne).trans e
  have tk : Tk s₂'.heap h₃ := Tk.sameBut hs₃ eC₂ fun _ _ => .inl (by rw [dC]; intro q; cases q)
  refine ea5_9 k4 fun oe vs T oT ts he hcls hd h1 hnT hTe hT hdT h3 => ?_; try clear k4
  have neC : ∀ b o vs, s₂'.heap.get? b = some o → o.data = .fields vs → b ≠ C := fun b o vs e d q => by subst q; rw [eC₂] at e; cases e; rw [dC] at d; cases d
  have less : ∀ b, B.get? b = none → (hideAll B [C]).get? b = none := fun b hb => by
    cases q : (hideAll B [C]).get? b with
    | none => rfl
    | some o => have := of_hideAll _ q; rw [hb] at this; cases this
  have k4' : h₃.TracedAtW (hideAll B [C]) e X a0 (rawInt f.L) := ⟨oe, vs, T, oT, ts, keep _ _ (neC _ _ _ he hd) he, hcls, hd, h1, less _ hnT, hTe, keep _ _ (neC _ _ _ hT hdT) hT, hdT, h3⟩
  have k1' : (hideAll B [C]).StaysIn h₃ := fun b o q => by
    by_cases hb : b = C
    · subst hb; rw [hideAll_none [b] List.mem_cons_self] at q; cases q
    · exact keep b o hb (k1 b o (of_hideAll _ q))
  have k3' : h₃.FunFrames (hideAll B [C]) (f.env :: f.outer) := by
    have : ∀ l : List Env, (∀ env ∈ l, ∀ b, env.frame = some b → b ≠ C) → s₂'.heap.FunFrames B l → h₃.FunFrames (hideAll B [C]) l := by
      intro l
      induction l with
      | nil => intro _ _; trivial
      | cons env' l ih =>
        intro hne hh
        refine ea0_3 hh fun a1 zq3 a3 => ?_; try clear hh; refine ea2_4 zq3 fun L o b1 b2 b3 b4 => ?_; clear zq3
        exact ⟨a1, ⟨L, o, b1, less _ b2, keep _ _ (hne env' List.mem_cons_self L b1) b3, b4⟩, ih (fun e he => hne e (List.mem_cons_of_mem _ he)) a3⟩
    refine this _ (fun env' he b hb q => ?_) k3
    subst q
    rcases List.mem_cons.mp he with rfl | he
    · rw [f.frame] at hb; cases hb; exact CO (.inl rfl)
    · exact CF (List.mem_filterMap.mpr ⟨env', he, hb⟩)
  unfold PySem.passOn
  refine wpAny_bind (wpAny_field (keep _ _ (neC _ _ _ he hd) he) hd h1 ?_)
  rw [if_neg (show ¬ ((Value.ref T == Value.none) = true) from by simp)]
  have fin : ∀ h₄, (hideAll B [C]).StaysIn h₄ → h₄.FunFrames (hideAll B [C]) (f.env :: f.outer) → h₄.TracedAtW (hideAll B [C]) e X a0 (cenv'.frame.elim Value.none fun f => rawInt f) → (∀ b o, h₃.get? b = some o → (∀ vs, o.data ≠ .fields vs) → h₄.get? b = some o) → E (.ref e) { s₂' with heap := h₄ } := by
    intro h₄ y1 y2 y3 y4
    have up : h₃.UpToSlots h₄ := fun b o e d => ⟨o.slots, y4 b o e d⟩
    have tk' : Tk s₂'.heap h₄ := tk.trans (.slots up)
    have nb : ∀ b o, s₂.heap.get? b = some o → b ≠ C := fun b o e q => by subst q; rw [hC2] at e; cases e
    refine hE _ ⟨e, rfl, .inr ⟨hideAll B [C], a0, _, ⟨fun b o q => hideAll_get _ (k.hB b o q) fun hm => ?_, fun b o e n1 n2 n3 => hideAll_get _ (k.kp b o (t.kp' e n1 n2) (t.nin e n1) n2 n3) fun hm => nb b o e (List.mem_singleton.mp hm), fun a ao hm => ?_, k.nd, fun b o hb e => ?_, t.toStpX.trans (k.stp.trans (.heap tk')), fun b hb => ?_⟩, y1, less _ k2, y2, y3⟩⟩
    · rw [List.mem_singleton.mp hm] at q
      refine ea1_1 (R₂.fr) fun mF F => ?_
      rw [F.keep _ _ (ok.B.stays _ _ q)] at hC2; cases hC2
    · refine ea1_4 (k.objs a ao hm) fun o e1 n1 n2 hc => ?_
      exact ⟨o, hideAll_get _ e1 fun q => Cn (List.mem_singleton.mp q ▸ List.mem_map_of_mem (f := (·.1)) hm), n1, n2, hc.mono tk'⟩
    · refine ea1_1 (k.ups b o hb (R₂.frsKept t b hb o e)) fun sl e1 => ?_
      refine ea1_1 (R₂.fr) fun m F => ?_
      refine ea1_2 (ok.frs_data hb) fun o' e' d' => ?_
      have := F.keep _ _ e'
      rw [e] at this; cases this
      exact ⟨sl, y4 b _ (keep b _ (nb b o e) e1) d'⟩
    · refine Classical.byContradiction fun q => ?_
      rw [not_or] at q
      cases e1 : s₂.heap.get? b with
      | none => exact q.2 e1
      | some o =>
        obtain ⟨⟨b', bo⟩, hm, rfl⟩ := List.mem_map.mp hb
        refine ea1_3 (k.objs _ _ hm) fun _ _ nO _ => ?_
        have e2 := t.kp' e1 q.1 nO
        rcases k.dom _ hb with h | h
        · exact t.nin e1 q.1 h
        · rw [e2] at h; cases h
  first
    | exact wpAny_bind (wpAny_pure (wpAny_bind (x_flight k1' (less _ k2) k3' k4' fun h₄ y1 y2 y3 y4 => wpAny_throw (fin h₄ y1 y2 y3 y4))))
    | exact wpAny_bind (x_flight k1' (less _ k2) k3' k4' fun h₄ y1 y2 y3 y4 => wpAny_throw (fin h₄ y1 y2 y3 y4))

theorem Rel.sub {c : Cx} {f : Fx} {env env' : Env} {ρ ρ' : Locals} {η : Store} {s : Shared} (R : Rel c f env ρ η s) (hl : ∃ m, s.heap.Ns env'.locals m) (hn : ∀ a ao, (a, ao) ∈ η → a ≠ env'.locals)
    (h : ∀ x av, ρ'.lookup x = some av → ρ.lookup x = some av ∧ ∀ v, NameAt env s.heap x v → NameAt env' s.heap x v) : Rel c f env' ρ' η s where
  fr := R.fr
  ns := hl
  names := fun x av e => let ⟨a, b⟩ := h x av e; let ⟨v, q, r⟩ := R.names x av a; ⟨v, b v q, r⟩
  objs := fun a ao e => let ⟨o, e1, e2, e3, e4, e5⟩ := R.objs a ao e; ⟨o, e1, e2, hn a ao e, e4, e5⟩
  nd := R.nd
  cells := R.cells
  frs := R.frs

/-- the block of a comprehension: what stands all the while -/
structure BlkC (f : Fx) (cenv : Env) (D : Addr) (wr : List Addr) (η₁ : Store) (s₂ : Shared) : Prop where
  C2 : s₂.heap.get? cenv.locals = none
  D2 : s₂.heap.get? D = none
  I2 : ∀ b ∈ wr, s₂.heap.get? b = none ∨ b ∈ η₁.map (·.1)
  IC : cenv.locals ∉ wr
  ID : D ∉ wr
  CD : cenv.locals ≠ D
  C0 : f.h₀.get? cenv.locals = none
  I0 : ∀ b ∈ wr, f.h₀.get? b = none
  D0 : f.h₀.get? D = none
  CO : ¬ f.Own cenv.locals
  DO : ¬ f.Own D
  IO : ∀ b ∈ wr, ¬ f.Own b
/-- and what turns: the names, the store, the list so far -/
inductive Blk (c : Cx) (f : Fx) (cenv : Env) (D : Addr) (wr : List Addr) (η₁ : Store) (s₂ : Shared) (ρ : Locals) (η : Store) (acc : List AV) (s : Shared) : Prop
  | mk (R : Rel c f cenv ρ η s) (t : Stp f cenv η₁ η s₂ s) (m : Str → Option Value) (hn : s.heap.Ns cenv.locals m) (ys : List Value) (k : Nat) (hD : s.heap.get? D = some (listOf ys.toArray k)) (ra : RvAll s.heap ys acc) (nD : D ∉ η.map (·.1)) (nI : ∀ b ∈ wr, b ∉ η.map (·.1))
section
variable {c : Cx} {f : Fx} {cenv : Env} {D : Addr} {wr : List Addr} {η₁ : Store} {s₂ : Shared} {ρ ρ' : Locals} {η η' : Store} {acc : List AV} {s s' : Shared}
theorem Blk.buts (S : BlkC f cenv D wr η₁ s₂) (b : Blk c f cenv D wr η₁ s₂ ρ η acc s) {wr' : List Addr} (hw : ∀ a ∈ wr', a ∈ wr) (ob : ∀ a ∈ wr', ∃ o, s.heap.get? a = some o ∧ ∃ vs, o.data = .fields vs) {h' : Heap} {tk : Nat} (kp : ∀ a o, a ∉ wr' → s.heap.get? a = some o → h'.get? a = some o) :
    Blk c f cenv D wr η₁ s₂ ρ η acc { s with heap := h', toks := tk } := by
  obtain ⟨R, t, m, hn, ys, k, hD, ra, nD, nI⟩ := b
  refine ea0_2 (R.buts (tk := tk) ob (fun a ha => ⟨nI a (hw a ha), S.IO a (hw a ha), fun q => S.IC (q ▸ hw a ha), S.I0 a (hw a ha)⟩) kp) fun R' tk' => ?_
  exact ⟨R', t.buts (fun a ha => S.I2 a (hw a ha)) (fun a ha => S.IO a (hw a ha)) tk' kp, m, hn.at' fun o e => kp _ o (fun h => S.IC (hw _ h)) e, ys, k, kp _ _ (fun h => S.ID (hw _ h)) hD, ra.mono tk', nD, nI⟩
theorem Blk.step (S : BlkC f cenv D wr η₁ s₂) (b : Blk c f cenv D wr η₁ s₂ ρ η acc s) (ob : ∀ a ∈ wr, ∃ o, s.heap.get? a = some o) (ta : Stp f cenv η η' s s') (Rb : Rel c f cenv ρ' η' s') : Blk c f cenv D wr η₁ s₂ ρ' η' acc s' := by
  obtain ⟨R, t, m, ⟨oC, es, ep, eC, rC⟩, ys, k, hD, ra, nD, nI⟩ := b
  have nC : cenv.locals ∉ η.map (·.1) := fun h => by
    obtain ⟨⟨a, ao⟩, hm, e⟩ := List.mem_map.mp h
    exact R.neL hm e
  refine ⟨Rb, t.trans ta, m, ⟨oC, es, ep, ta.kp' eC nC S.CO, rC⟩, ys, k, ta.kp' hD nD S.DO, ra.mono ta.tk, fun h => ?_, fun a ha h => ?_⟩
  · rcases ta.dom _ h with h | h
    · exact nD h
    · rw [hD] at h; cases h
  · rcases ta.dom _ h with h | h
    · exact nI a ha h
    · refine ea1_1 (ob a ha) fun o e => ?_; rw [e] at h; cases h
theorem Blk.app (S : BlkC f cenv D wr η₁ s₂) (b : Blk c f cenv D wr η₁ s₂ ρ η acc s) (hz : acc.length ≤ 1000000) {x : Value} {a : AV} (rv : Rv s.heap x a) {Q : Value → Shared → Prop} {E : Value → Shared → Prop}
    (h : ∀ h', Blk c f cenv D wr η₁ s₂ ρ η (acc ++ [a]) { s with heap := h' } → Tk s.heap h' → (∀ b o, b ≠ D → s.heap.get? b = some o → h'.get? b = some o) → Q .none { s with heap := h' }) : wpAny (model c.prog c.w) f.A (call (.builtin "list.append") [.ref D, x]) Q E s := by
  obtain ⟨R, t, m, hn, ys, k, hD, ra, nD, nI⟩ := b
  refine append_at (hsz := by rw [List.size_toArray, ra.length, sizeLine_eq]; exact Nat.le_trans hz (by decide)) hD fun h₇ hs₇ hD₇ => ?_
  have k₇ : ∀ b o, b ≠ D → s.heap.get? b = some o → h₇.get? b = some o := fun b o ne e => (hs₇.2 b ne).trans e
  obtain ⟨R₇, tk₇⟩ := R.but (tk := s.toks) hD (fun v q => by cases q) (fun vs n => .inr fun q => absurd (Value.type.inj q) (by decide)) nD S.DO (Ne.symm S.CD) S.D0 k₇
  exact h h₇ ⟨R₇, t.but (tk := s.toks) S.D2 S.DO tk₇ k₇, m, hn.at' fun o e => k₇ _ o S.CD e, ys ++ [x], k + 1, by rw [hD₇, List.push_toArray], (ra.mono tk₇).append (.cons (rv.mono tk₇) .nil), nD, nI⟩ tk₇ k₇
theorem Blk.sub {prs : Locals} (b : Blk c f cenv D wr η₁ s₂ (prs ++ ρ) η acc s) (hdis : ∀ x av, ρ.lookup x = some av → prs.lookup x = none) : Blk c f cenv D wr η₁ s₂ ρ η acc s := by
  obtain ⟨R, t, m, hn, ys, k, hD, ra, nD, nI⟩ := b
  exact ⟨R.fewer (fun x av e => by rw [lookup_append, hdis x av e]; exact e) (fun _ h => h) R.nd, t, m, hn, ys, k, hD, ra, nD, nI⟩
/-- a turn's head: the next item into its names -/
theorem Blk.turn {tg : Expr} {I : Addr} {wr' : List Addr} {items : List AV} {dep : Option (Addr × AObj)} {It : Nat → Heap → Prop} {i : Nat} {d : AV} {prs : Locals} {Qn Q : Shared → Prop} {E₁ E₂ E₃ : Value → Shared → Prop} (W : ItOk c f tg I wr' items dep It) (S : BlkC f cenv D wr η₁ s₂) (hw : ∀ a ∈ wr', a ∈ wr)
    (b : Blk c f cenv D wr η₁ s₂ ρ η acc s) (hit : It i s.heap) (hdep : Dep dep η) (hdd : items[i]? = some d) (ha : Asg c f cenv tg d prs)
    (h : ∀ s₁, Blk c f cenv D wr η₁ s₂ (prs ++ ρ) η acc s₁ → It (i + 1) s₁.heap → Tk s.heap s₁.heap → (∀ a o, a ∉ wr' → a ≠ cenv.locals → s.heap.get? a = some o → s₁.heap.get? a = some o) → (∀ x e, prs.lookup x = some e → cenv.kindOf x = some .local) → Q s₁) :
    wpAny (model c.prog c.w) f.A (pyNext (.ref I)) (fun r s₁ => match r with
      | none => Qn s₁
      | some v => wpAny (model c.prog c.w) f.A (letOwnedTupleGo tg (.ref I) v) (fun _ s₂ => wpAny (model c.prog c.w) f.A (assign tg cenv v) (fun _ s₃ => Q s₃) E₃ s₂) E₂ s₁) E₁ s := by
  refine W.item i s _ _ (List.getElem?_eq_some_iff.mp hdd).1 hit fun v d' h' tk hd' rd ob' lgo kp => ?_
  obtain rfl : d = d' := by rw [hdd] at hd'; exact Option.some.inj hd'
  have b' := b.buts (tk := tk) S hw (W.ob _ _ hit) kp
  have tk' := tk_but kp (W.ob _ _ hit)
  refine lgo _ _ _ rfl fun hl stl kl => ?_
  have b'' := b'.buts (tk := tk) S hw ob' kl
  have tkl := tk_but kl ob'
  obtain ⟨R, t, m, hn, ys, k, hD, ra, nD, nI⟩ := b''
  refine ha _ v m _ _ (rd.mono tkl) hn fun h₁ tk₁ m₁ hn₁ h1 h2 k₁ => ?_
  refine ea0_2 (R.asg (tk := tk₁) ⟨S.CO, S.C0⟩ hn hn₁ h1 h2 k₁) fun R₁ tk₁' => ?_
  refine h _ ⟨R₁, t.but S.C2 S.CO tk₁' k₁, m₁, hn₁, ys, k, k₁ _ _ (Ne.symm S.CD) hD, ra.mono tk₁', nD, nI⟩ (W.cl _ _ _ stl (fun a ha o e => k₁ _ o (fun q => S.IC (q ▸ hw a ha)) e) tk₁' fun a ao e => ?_) ((tk'.trans tkl).trans tk₁') (fun a o n1 n2 e => k₁ a o n2 (kl a o n1 (kp a o n1 e))) fun x e q => (h2 x e q).1
  obtain ⟨o, e1, _, _, _, hc⟩ := R₁.objs a ao (hdep _ e)
  exact ⟨o, e1, hc⟩
theorem Blk.done {tg : Expr} {I : Addr} {wr' : List Addr} {items : List AV} {dep : Option (Addr × AObj)} {It : Nat → Heap → Prop} {Q : Option Value → Shared → Prop} {E : Value → Shared → Prop} (W : ItOk c f tg I wr' items dep It) (S : BlkC f cenv D wr η₁ s₂) (hw : ∀ a ∈ wr', a ∈ wr)
    (b : Blk c f cenv D wr η₁ s₂ ρ η acc s) (hit : It items.length s.heap) (h : ∀ s₁, Blk c f cenv D wr η₁ s₂ ρ η acc s₁ → (∀ a o, a ∉ wr' → s.heap.get? a = some o → s₁.heap.get? a = some o) → Tk s.heap s₁.heap → Q none s₁) : wpAny (model c.prog c.w) f.A (pyNext (.ref I)) Q E s :=
  W.done s _ _ hit fun h' tk kp => h _ (b.buts (tk := tk) S hw (W.ob _ _ hit) kp) kp (tk_but kp (W.ob _ _ hit))
/-- an iterator stays over a step -/
theorem ItOk.stay {tg : Expr} {I : Addr} {wr' : List Addr} {items : List AV} {dep : Option (Addr × AObj)} {It : Nat → Heap → Prop} {i : Nat} (W : ItOk c f tg I wr' items dep It) (hit : It i s.heap) (k : ∀ b ∈ wr', ∀ o, s.heap.get? b = some o → s'.heap.get? b = some o) (t : Tk s.heap s'.heap) (b : Blk c f cenv D wr η₁ s₂ ρ η acc s') (hdep : Dep dep η) : It i s'.heap :=
  W.cl _ _ _ hit k t fun a ao e => by
    obtain ⟨R, _⟩ := b
    obtain ⟨o, e1, _, _, _, hc⟩ := R.objs a ao (hdep _ e)
    exact ⟨o, e1, hc⟩
theorem drop_item {l : List AV} {i : Nat} {d : AV} {ds : List AV} (h : l.drop i = d :: ds) : l[i]? = some d ∧ l.drop (i + 1) = ds := by
  refine ⟨?_, by rw [← List.drop_drop, h]; rfl⟩
  have := congrArg (·[0]?) h
  simpa [List.getElem?_drop] using this
theorem drop_end {l : List AV} {i : Nat} (h : l.drop i = []) (hi : i ≤ l.length) : i = l.length := Nat.le_antisymm hi (List.drop_eq_nil_iff.mp h)
theorem fuel_lt {i n : Nat} (h : i < n) : n + 1 - (i + 1) < n + 1 - i := by lia
end
section
variable {c : Cx} {f : Fx} {ρ : Locals} {η : Store} {Φ : AV → Store → Prop} {Ψ : Exc} {n : Nat}
/-- a comprehension's loop under way -/
inductive LoopI (c : Cx) (f : Fx) (cenv : Env) (target : Expr) (ifs : List Expr) (elt : Expr) (D : Addr) (wr : List Addr) (η₁ : Store) (s₂ : Shared) (ρ' : Locals) (dep : Option (Addr × AObj)) (Φs : List AV → Store → Prop) (Ψ : Exc) (items : List AV) (It : Nat → Heap → Prop) (j : Nat) (s : Shared) : Prop
  | mk (acc : List AV) (η' : Store) (i : Nat) (e : j = items.length + 1 - i) (hi : i ≤ items.length) (ha : acc.length ≤ i) (b : Blk c f cenv D wr η₁ s₂ ρ' η' acc s) (hit : It i s.heap) (hd : Dep dep η') (hS : CompS c f cenv target ifs elt ρ' dep Φs Ψ (items.drop i) acc η')
theorem comp_loop {cenv : Env} {target elt iter : Expr} {ifs : List Expr} {scope : Scope} {pos : Pos} {ρ' : Locals} {dep : Option (Addr × AObj)} {items : List AV} {I D : Addr} {wr : List Addr} {It : Nat → Heap → Prop} {s₂ : Shared} {η₁ : Store} {Φs : List AV → Store → Prop}
    {R : Result → Shared → Prop} (W : ItOk c f target I wr items dep It) (hifs : ifs.length ≤ 1) (hz : items.length ≤ 1000000) (S : BlkC f cenv D wr η₁ s₂) (hρ : ∀ x av, ρ'.lookup x = some av → cenv.kindOf x ≠ some .local)
    (hRE : ∀ (ρx : Locals) (η : Store) (acc : List AV) (s₅ : Shared), Blk c f cenv D wr η₁ s₂ ρx η acc s₅ → Esc c f η s₅ Ψ (notedBy (model c.prog c.w) f.A cenv fun e s' => R (.error e) s'))
    (hR : ∀ acc η' s', Φs acc η' → Blk c f cenv D wr η₁ s₂ ρ' η' acc s' → R (.ok .next) s')
    (j : Nat) (s : Shared) (h0 : LoopI c f cenv target ifs elt D wr η₁ s₂ ρ' dep Φs Ψ items It j s) :
    codeAny (model c.prog c.w) f.A (.compLoop (.ListComp elt [⟨target, iter, ifs, 0⟩] scope pos) 0 (.ref I) (.ref D) cenv) R s := by
  refine codeAny_compLoop_any (LoopI c f cenv target ifs elt D wr η₁ s₂ ρ' dep Φs Ψ items It) ?_ j h0
  rintro j s ⟨acc, η', i, rfl, hi, hacc, b, hit, hdep, hS⟩
  have self : ∀ a ∈ wr, a ∈ wr := fun _ h => h
  cases hdr : items.drop i with
  | nil =>
    rw [hdr] at hS
    obtain rfl := drop_end hdr hi
    exact b.done W S self hit fun s₁ b₁ _ _ => hR acc η' s₁ hS b₁
  | cons d ds =>
    refine ea0_2 (drop_item hdr) fun hdd hdr' => ?_
    have hlt := (List.getElem?_eq_some_iff.mp hdd).1
    rw [hdr] at hS
    obtain ⟨prs, ha, hS⟩ := hS
    refine b.turn W S self hit hdep hdd ha fun s₁ b₁ it₁ _ _ hloc => ?_
    have hdis : ∀ x av, ρ'.lookup x = some av → prs.lookup x = none := fun x av e => by
      cases q : prs.lookup x with
      | none => rfl
      | some d => exact absurd (hloc x d q) (hρ x av e)
    have obs : ∀ {s : Shared} {i : Nat}, It i s.heap → ∀ a ∈ wr, ∃ o, s.heap.get? a = some o := fun h a ha => let ⟨o, e, _⟩ := W.ob _ _ h a ha; ⟨o, e⟩
    have kpI : ∀ {η₂ η₃ : Store} {acc : List AV} {ρ : Locals} {s₅ s₆ : Shared}, Blk c f cenv D wr η₁ s₂ ρ η₂ acc s₅ → Stp f cenv η₂ η₃ s₅ s₆ → ∀ b ∈ wr, ∀ o, s₅.heap.get? b = some o → s₆.heap.get? b = some o := fun bb t b hb o e => by
      obtain ⟨_, _, _, _, _, _, _, _, _, nI⟩ := bb
      exact t.kp' e (nI b hb) (S.IO b hb)
    -- the element, and its place in the list
    have elem : ∀ {η₂ : Store} {s₅ : Shared}, Blk c f cenv D wr η₁ s₂ (prs ++ ρ') η₂ acc s₅ → It (i + 1) s₅.heap →
        Ev c f cenv elt (prs ++ ρ') η₂ (fun a η' => Dep dep η' ∧ CompS c f cenv target ifs elt ρ' dep Φs Ψ ds (acc ++ [a]) η') Ψ →
        wpAny (model c.prog c.w) f.A (eval elt cenv) (fun x s₄ => wpAny (model c.prog c.w) f.A (call (.builtin "list.append") [.ref D, x]) (fun _ s₅ => ∃ m, m < items.length + 1 - i ∧ LoopI c f cenv target ifs elt D wr η₁ s₂ ρ' dep Φs Ψ items It m s₅) (notedBy (model c.prog c.w) f.A cenv fun e s' => R (.error e) s') s₄)
          (notedBy (model c.prog c.w) f.A cenv fun e s' => R (.error e) s') s₅ := by
      intro η₂ s₅ bb hit' hev
      obtain ⟨Ra, _⟩ := id bb
      refine wpAny_mono (hev s₅ _ Ra (hRE _ _ _ _ bb)) (fun x s₆ h₆ => ?_) fun _ _ q => q
      obtain ⟨av, η₃, Rb, tb, rv, db, hC⟩ := h₆
      have b₆ := bb.step S (obs hit') tb Rb
      have it₆ := W.stay hit' (kpI bb tb) tb.tk b₆ db
      refine b₆.app S (Nat.le_trans hacc (Nat.le_trans hi hz)) rv fun h₇ b₇ tk₇ k₇ => ?_
      exact ⟨_, fuel_lt hlt, acc ++ [av], η₃, i + 1, rfl, hlt, by rw [List.length_append]; exact Nat.succ_le_succ hacc, b₇.sub hdis, W.stay it₆ (fun a ha o e => k₇ a o (fun q => S.ID (q ▸ ha)) e) tk₇ b₇ db, db, by rw [hdr']; exact hC⟩
    cases ifs with
    | nil =>
      refine wpAny_tests_nil ?_
      rw [if_pos rfl]
      exact elem b₁ it₁ hS
    | cons tst r =>
      cases r with
      | cons _ _ => exact absurd hifs (by simp)
      | nil =>
        obtain ⟨R₁, _⟩ := id b₁
        refine wpAny_tests_one (wpAny_mono (hS _ _ R₁ (hRE _ _ _ _ b₁)) (fun bl s₅ h₅ => ?_) fun _ _ q => q)
        obtain ⟨η₂, Rb, tb, db, hb1, hb2⟩ := h₅
        have b₅ := b₁.step S (obs it₁) tb Rb
        have it₅ := W.stay it₁ (kpI b₁ tb) tb.tk b₅ db
        cases bl with
        | true =>
          rw [if_pos rfl]
          exact elem b₅ it₅ (hb1 rfl)
        | false =>
          rw [if_neg Bool.false_ne_true]
          exact ⟨_, fuel_lt hlt, acc, η₂, i + 1, rfl, hlt, Nat.le_succ_of_le hacc, b₅.sub hdis, it₅, db, by rw [hdr']; exact hb2 rfl⟩
/-- what a comprehension's outer loop is to do -/
noncomputable def LoopC (c : Cx) (f : Fx) (e target : Expr) (ρ' : Locals) (Φs : List AV → Store → Prop) (Ψ : Exc) (P : Env → List AV → Option (Addr × AObj) → Store → Prop) : Prop :=
  ∀ (cenv : Env) (items : List AV) (dep : Option (Addr × AObj)) (η₁ η₂ : Store) (I D : Addr) (wr : List Addr) (It : Nat → Heap → Prop) (s₂ s : Shared) (R : Result → Shared → Prop), (∀ x av, ρ'.lookup x = some av → cenv.kindOf x = some .cell) → P cenv items dep η₂ →
    ItOk c f target I wr items dep It → BlkC f cenv D wr η₁ s₂ → Blk c f cenv D wr η₁ s₂ ρ' η₂ [] s → It 0 s.heap → Dep dep η₂ →
    (∀ (ρx : Locals) (η : Store) (acc : List AV) (s₅ : Shared), Blk c f cenv D wr η₁ s₂ ρx η acc s₅ → Esc c f η s₅ Ψ (notedBy (model c.prog c.w) f.A cenv fun e s' => R (.error e) s')) →
    (∀ acc η' s', Φs acc η' → Blk c f cenv D wr η₁ s₂ ρ' η' acc s' → R (.ok .next) s') → codeAny (model c.prog c.w) f.A (.compLoop e 0 (.ref I) (.ref D) cenv) R s
theorem LoopC.one {target elt iter : Expr} {ifs : List Expr} {scope : Scope} {pos : Pos} {ρ' : Locals} {Φs : List AV → Store → Prop} (hifs : ifs.length ≤ 1) :
    LoopC c f (.ListComp elt [⟨target, iter, ifs, 0⟩] scope pos) target ρ' Φs Ψ fun cenv items dep η₂ => items.length ≤ 1000000 ∧ CompS c f cenv target ifs elt ρ' dep Φs Ψ items [] η₂ :=
  fun cenv items dep η₁ η₂ I D wr It s₂ s R hρ h W S b it0 hdep hRE hR => comp_loop W hifs h.1 S (fun x av e q => by rw [hρ x av e] at q; cases q) hRE hR _ _ ⟨[], η₂, 0, rfl, Nat.zero_le _, Nat.le_refl _, b, it0, hdep, h.2⟩
theorem evs_le {β : Type} {S : List AV → Option (Addr × AObj) → Store → Prop} {D : Option (Addr × AObj) → Store → Prop} {K : β → List AV → Option (Addr × AObj) → Store → Prop} (h : ∃ items dep η₂, S items dep η₂ ∧ D dep η₂ ∧ items.length ≤ 1000000 ∧ ∀ C, K C items dep η₂) : ∃ items dep η₂, S items dep η₂ ∧ D dep η₂ ∧ ∀ C, items.length ≤ 1000000 ∧ K C items dep η₂ :=
  ea3_4 h fun a b d x y z w => ⟨a, b, d, x, y, fun C => ⟨z, w C⟩⟩
/-- a comprehension up to its end -/
theorem comp_core {target elt iter : Expr} {ifs : List Expr} {gs : List Comprehension} {scope : Scope} {cl : List (Str × Addr)} {pos pos' : Pos} {ρ' : Locals} {Φs : List AV → Store → Prop} {P : Env → List AV → Option (Addr × AObj) → Store → Prop} {use : Option (Value → Sem Unit)} {Q : Value → Shared → Prop} {s : Shared} {E : Value → Shared → Prop} (ok : FOk c f n)
    (hclos : closureFor scope f.env = pure cl) (hcell : ∀ y ∈ scope.names, y.2 ≠ .cell) (hkind : scope.kind = .function) (hnames : ∀ y ∈ scope.names, y.2 = .local → scope.names.lookup y.1 = some .local)
    (hρ : ∀ C x av, ρ'.lookup x = some av → ρ.lookup x = some av ∧ f.env.kindOf x = some .cell ∧ cl.lookup x = f.env.cells.lookup x ∧ (compEnvC scope cl C f.env).kindOf x = some .cell)
    (hl : LoopC c f (.ListComp elt (⟨target, iter, ifs, 0⟩ :: gs) scope pos) target ρ' Φs Ψ P)
    (h : Ev c f f.env iter ρ η (fun a η₁ => ∃ items dep η₂, Src c f target a η₁ η₂ items dep ∧ Dep dep η₂ ∧ ∀ C, P (compEnvC scope cl C f.env) items dep η₂) Ψ)
    (hs : ∀ env x, foldedSetIterable iter env x = pure x)
    (R : Rel c f f.env ρ η s) (hE : Esc c f η s Ψ E)
    (hfin : ∀ D C acc η' s' m η₁ s₁, Φs acc η' → Rel c f f.env ρ ((D, .list acc) :: η') s' → Stp f f.env η η₁ s s₁ → Stp f f.env η₁ ((D, .list acc) :: η') s₁ s' → s'.heap.Ns C m → C ∉ ((D, AObj.list acc) :: η').map (·.1) → ¬ f.Own C → C ≠ f.env.locals → f.h₀.get? C = none → s₁.heap.get? C = none →
      compPost (model c.prog c.w) f.A E use Q (.ref D) C (.ok .next) s') :
    wpAny (model c.prog c.w) f.A (comprehension (.ListComp elt (⟨target, iter, ifs, 0⟩ :: gs) scope pos) scope f.env pos' (newList []) false (eval iter f.env) use) Q E s := by
  refine wpAny_comprehension_free rfl (hs _) hclos hkind hnames (wpAny_mono (h s E R hE) (fun xv s₁ h₁ => ?_) fun _ _ e => e)
  obtain ⟨av, η₁, R₁, t₁, r₁, items, dep, η₂, hsrc, hdep, hS⟩ := h₁
  refine hsrc s₁ xv f.env ρ _ _ R₁ r₁ hdep fun hsub hnd I wr It h' tk W it0 hI2 kp => ?_
  refine wpAny_newObj_type (wpAny_newFunctionEnv hcell (by intro y hy; simp at hy) (fun h₁ hns₁ hsb₁ => ?_) hkind)
  dsimp only at hns₁ hsb₁ ⊢
  generalize hH2 : h'.push { cls := .type "list", dict := none, data := .seq ([] : List Value).toArray } = H2 at hns₁ hsb₁ ⊢
  have hC : H2.objs.size = h'.objs.size + 1 := by rw [← hH2, Heap.size_push]
  have hDC : h'.objs.size ≠ H2.objs.size := by rw [hC]; exact Nat.ne_of_lt (Nat.lt_succ_self _)
  have below : ∀ b, b < h'.objs.size → b ≠ H2.objs.size ∧ b ≠ h'.objs.size := fun b hb => ⟨by rw [hC]; exact Nat.ne_of_lt (Nat.lt_succ_of_lt hb), Nat.ne_of_lt hb⟩
  have old : ∀ b o, h'.get? b = some o → h₁.get? b = some o := fun b o e => hsb₁.extBut b o (below b (Heap.lt_size e)).1 (Heap.get?_push_of_some _ (hH2 ▸ Heap.get?_push_of_some _ e))
  have hacc : h₁.get? h'.objs.size = some (listOf ([] : List Value).toArray 0) := hsb₁.extBut _ _ hDC (Heap.get?_push_of_some _ (hH2 ▸ Heap.get?_push_size _ rfl))
  have k₁ : ∀ b o, s₁.heap.get? b = some o → h₁.get? b = some o := fun b o e => old b o (kp b o e)
  have fr2 : ∀ b, h'.objs.size ≤ b → s₁.heap.get? b = none := fun b hb => by
    cases e : s₁.heap.get? b with
    | none => rfl
    | some o => exact absurd (Heap.lt_size (kp b o e)) (Nat.not_lt.mpr hb)
  have hC2 := fr2 H2.objs.size (by rw [hC]; exact Nat.le_succ _)
  have hD2 := fr2 h'.objs.size (Nat.le_refl _)
  refine ea0_4 (R₁.fresh hC2) fun CO C1 C0 C3 => ?_
  refine ea0_4 (R₁.fresh hD2) fun DO D1 D0 D3 => ?_
  have R₁₂ := R₁.fewer (ρ' := ρ) (fun _ _ e => e) hsub hnd
  have wrF : ∀ b ∈ wr, b ∉ η₂.map (·.1) ∧ ¬ f.Own b ∧ f.h₀.get? b = none := fun b hb => by
    rcases hI2 b hb with q | ⟨q1, q2⟩
    · refine ea0_4 (R₁₂.fresh q) fun a1 _ a3 a4 => ?_; exact ⟨a4, a1, a3⟩
    · obtain ⟨⟨b', bo⟩, hm, rfl⟩ := List.mem_map.mp q1
      obtain ⟨_, _, n1, _, n3, _⟩ := R₁.objs _ _ hm
      exact ⟨q2, n1, n3⟩
  have wrlt : ∀ b ∈ wr, b < h'.objs.size := fun b hb => by refine ea1_2 (W.ob _ _ it0 b hb) fun o e _ => ?_; exact Heap.lt_size e
  have It1 : It 0 h₁ := W.cl _ _ _ it0 (fun b _ o e => old _ o e) (.of_keep old) fun a ao e => by
    obtain ⟨o, e1, _, _, _, hc⟩ := R₁₂.objs a ao (hdep _ e)
    exact ⟨o, k₁ _ _ e1, hc.mono (.of_keep k₁)⟩
  have Rc : Rel c f (compEnvC scope cl H2.objs.size f.env) ρ' η₂ { s₁ with heap := h₁, toks := tk + ([] : List (Str × Value)).length } := by
    have R₃ := R₁₂.keeps (n := tk + ([] : List (Str × Value)).length) k₁
    refine R₃.sub ⟨_, hns₁⟩ (fun a ao hm q => C3 ((show a = H2.objs.size from q) ▸ List.mem_map_of_mem (f := (·.1)) (hsub _ hm))) fun x av e => ?_
    refine ea0_4 (hρ H2.objs.size x av e) fun e1 e2 e3 e4 => ?_
    refine ⟨e1, fun v hv => ?_⟩
    rcases hv with ⟨k, _⟩ | ⟨_, cl', ec, i⟩
    · rw [e2] at k; cases k
    · exact .inr ⟨.inl e4, cl', e3.trans ec, i⟩
  have S : BlkC f (compEnvC scope cl H2.objs.size f.env) h'.objs.size wr η₁ s₁ := ⟨hC2, hD2, fun b hb => (hI2 b hb).imp id fun q => q.1, fun hm => (below _ (wrlt _ hm)).1 rfl, fun hm => (below _ (wrlt _ hm)).2 rfl, hDC.symm, C0, fun b hb => (wrF b hb).2.2, D0, CO, DO, fun b hb => (wrF b hb).2.1⟩
  have loop : codeAny (model c.prog c.w) f.A (.compLoop (.ListComp elt (⟨target, iter, ifs, 0⟩ :: gs) scope pos) 0 (.ref I) (.ref h'.objs.size) (compEnvC scope cl H2.objs.size f.env)) (compPost (model c.prog c.w) f.A E use Q (.ref h'.objs.size) H2.objs.size)
      { s₁ with heap := h₁, toks := tk + ([] : List (Str × Value)).length } := by
   refine hl _ items dep _ _ _ _ _ _ _ _ _ (fun x av e => (hρ _ x av e).2.2.2) (hS _) W S ⟨Rc, (Stp.keep k₁).fewer hsub, _, hns₁, [], 0, hacc, .nil, fun hm => D3 (by refine ea1_2 (List.mem_map.mp hm) fun p hp e => ?_; exact e ▸ List.mem_map_of_mem (f := (·.1)) (hsub _ hp)), fun b hb => (wrF b hb).1⟩ It1 hdep
    (fun ρx η acc s₅ bb x η' s' hx hp => ?_) ?_
   · obtain ⟨Ra, tx, m, hNa, _⟩ := bb
     exact XRel.block ok R₁ Ra tx hC2 hx hNa (fun hm => by obtain ⟨⟨b', bo⟩, hm', e'⟩ := List.mem_map.mp hm; exact Ra.neL hm' e') CO fun s'' hx' => hE x η' s'' (hx'.on R t₁) hp
   rintro acc η' s' hΦ ⟨Rl, t, m, hn, ys, k, hD, ra, nD, _⟩
   refine ea3_3 (id hn) fun oC es ep eC dC _ => ?_
   have nC : H2.objs.size ∉ η'.map (·.1) := fun hm => by
     obtain ⟨⟨b', bo⟩, hm', e'⟩ := List.mem_map.mp hm
     obtain ⟨_, _, _, n2, _⟩ := Rl.objs _ _ hm'
     exact n2 e'
   have neL : ¬ ((compEnvC scope cl H2.objs.size f.env).locals = f.L) := fun q => CO (.inl q)
   have keepOwn : ∀ b o, f.Own b → s₁.heap.get? b = some o → s'.heap.get? b = some o := fun b o w e => t.kp b o e (fun hm => by
     obtain ⟨⟨b', bo⟩, hm', rfl⟩ := List.mem_map.mp hm
     obtain ⟨_, _, n1, _⟩ := R₁.objs _ _ hm'
     exact n1 w) fun z => neL z.1
   refine ea1_1 (Rl.fr) fun mF F => ?_
   refine ea1_1 (R₁.fr) fun m₁ F₁ => ?_
   have tx : Tk s₁.heap s'.heap := t.tk
   have nsL : ∀ {m}, s₁.heap.Ns f.env.locals m → s'.heap.Ns f.env.locals m := fun hh => hh.at' fun o e => keepOwn _ o (.inl rfl) e
   have F₅ : Fr f.h₀ f.L s'.heap m₁ := ⟨nsL F₁.ns, fun b o e => F.keep b o e, F₁.above⟩
   have keepCell : ∀ x cl v, f.env.cells.lookup x = some cl → s₁.heap.IsCell cl v → s'.heap.IsCell cl v := fun x cl v e ⟨o, e1, d1⟩ => ⟨o, keepOwn _ o (.inr ⟨x, e⟩) e1, d1⟩
   have Rf : Rel c f f.env ρ η' s' := by
     refine ⟨⟨_, F₅⟩, ⟨_, F₅.ns⟩, fun x av e => ?_, fun a ao e => ?_, Rl.nd, fun x cl e => ?_, R₁.frs⟩
     · refine ea1_2 (R₁.names x av e) fun v a1 rv => ?_
       refine ⟨v, ?_, rv.mono tx⟩
       rcases a1 with ⟨k1, m1, n1, e1⟩ | ⟨k1, cl', ecl, i1⟩
       · exact .inl ⟨k1, m1, nsL n1, e1⟩
       · exact .inr ⟨k1, cl', ecl, keepCell _ _ _ ecl i1⟩
     · obtain ⟨o, e1, n1, n2, n3, hc⟩ := Rl.objs a ao e
       exact ⟨o, e1, n1, fun q => n1 (.inl q), n3, hc⟩
     · refine ea1_1 (R₁.cells x cl e) fun v i => ?_; exact ⟨v, keepCell x cl v e i⟩
   refine hfin h'.objs.size H2.objs.size acc η' _ m η₁ s₁ hΦ ⟨Rf.fr, Rf.ns, Rf.names, fun a ao hm => ?_, by rw [List.map_cons]; exact List.nodup_cons.mpr ⟨nD, Rf.nd⟩, Rf.cells, Rf.frs⟩ t₁ ⟨t.toStpX, t.wk.kp, fun b hb => ?_, t.ex⟩ hn ?_ CO C1 C0 hC2
   · rcases List.mem_cons.mp hm with q | hm
     · cases q; exact ⟨_, hD, DO, D1, D0, ys, k, rfl, ra⟩
     · exact Rf.objs a ao hm
   · rw [List.map_cons, List.mem_cons] at hb
     rcases hb with rfl | hb
     · exact .inr hD2
     · exact t.dom b hb
   · rw [List.map_cons, List.mem_cons]
     rintro (q | q)
     · exact hDC q.symm
     · exact nC q
  exact codeAny_compStart_list loop (W.self 0 _ _ _ It1 loop)

theorem Ev.comp {target elt iter : Expr} {ifs : List Expr} {scope : Scope} {cl : List (Str × Addr)} {pos : Pos} {ρ' : Locals} (ok : FOk c f n)
    (hclos : closureFor scope f.env = pure cl) (hcell : ∀ y ∈ scope.names, y.2 ≠ .cell) (hkind : scope.kind = .function) (hnames : ∀ y ∈ scope.names, y.2 = .local → scope.names.lookup y.1 = some .local) (hifs : ifs.length ≤ 1)
    (hρ : ∀ C x av, ρ'.lookup x = some av → ρ.lookup x = some av ∧ f.env.kindOf x = some .cell ∧ cl.lookup x = f.env.cells.lookup x ∧ (compEnvC scope cl C f.env).kindOf x = some .cell)
    (h : Ev c f f.env iter ρ η (fun a η₁ => ∃ items dep η₂, Src c f target a η₁ η₂ items dep ∧ Dep dep η₂ ∧ items.length ≤ 1000000 ∧ ∀ C, CompS c f (compEnvC scope cl C f.env) target ifs elt ρ' dep (fun acc η' => ∀ D, Φ (.val (.ref D)) ((D, .list acc) :: η')) Ψ items [] η₂) Ψ)
    (hs : ∀ env x, foldedSetIterable iter env x = pure x := by intro _ _; rfl) :
    Ev c f f.env (.ListComp elt [⟨target, iter, ifs, 0⟩] scope pos) ρ η Φ Ψ := fun s E R hE => by
  rw [eval_ListComp]
  refine comp_core ok hclos hcell hkind hnames hρ (LoopC.one hifs) (h.mono fun _ _ z => evs_le z) hs R hE fun D C acc η' s' m η₁ s₁ hΦ R' t₁ t' hn nC CO C1 C0 hC2 => ⟨m, hn, fun h₅ hs₅ => ?_⟩
  refine ea3_3 (id hn) fun oC es ep eC dC _ => ?_
  have k₅ : ∀ b o, b ≠ C → s'.heap.get? b = some o → h₅.get? b = some o := fun b o ne e => (hs₅.2 b ne).trans e
  obtain ⟨R₅, tk₅⟩ := R'.but (tk := s'.toks) eC (fun v q => by rw [dC] at q; cases q) (fun _ _ => .inl fun q => by rw [dC] at q; cases q) nC CO C1 C0 k₅
  exact ⟨_, _, R₅, t₁.trans (t'.but hC2 CO tk₅ k₅), .val _, hΦ D⟩
theorem Ex.assignShell {target elt iter : Expr} {ifs : List Expr} {gs : List Comprehension} {scope : Scope} {cl : List (Str × Addr)} {pos spos px : Pos} {x : Str} {ρ' : Locals} {P : Env → List AV → Option (Addr × AObj) → Store → Prop} {Φn : Locals → Store → Prop} {Φr : AV → Store → Prop} (ok : FOk c f n) (hx : f.env.kindOf x = some .local)
    (hsw : swapsWith (.ListComp elt (⟨target, iter, ifs, 0⟩ :: gs) scope pos) (some (.Name x px)) spos.line f.env = pure true)
    (hclos : closureFor scope f.env = pure cl) (hcell : ∀ y ∈ scope.names, y.2 ≠ .cell) (hkind : scope.kind = .function) (hnames : ∀ y ∈ scope.names, y.2 = .local → scope.names.lookup y.1 = some .local)
    (hρ : ∀ C x av, ρ'.lookup x = some av → ρ.lookup x = some av ∧ f.env.kindOf x = some .cell ∧ cl.lookup x = f.env.cells.lookup x ∧ (compEnvC scope cl C f.env).kindOf x = some .cell)
    (hl : LoopC c f (.ListComp elt (⟨target, iter, ifs, 0⟩ :: gs) scope pos) target ρ' (fun acc η' => ∀ D, Φn ((x, .val (.ref D)) :: ρ) ((D, .list acc) :: η')) Ψ P)
    (h : Ev c f f.env iter ρ η (fun a η₁ => ∃ items dep η₂, Src c f target a η₁ η₂ items dep ∧ Dep dep η₂ ∧ ∀ C, P (compEnvC scope cl C f.env) items dep η₂) Ψ)
    (hs : ∀ env x, foldedSetIterable iter env x = pure x) :
    Ex c f f.env (.Assign [.Name x px] (.ListComp elt (⟨target, iter, ifs, 0⟩ :: gs) scope pos) spos) ρ η Φn Φr Ψ := fun s E R hE => by
  rw [exec_Assign_Name_used _ _ _ _ hsw]
  refine wpAny_bind (wpAny_standAt (wpAny_bind ?_))
  show wpAny _ f.A (do let _ ← comprehension (.ListComp elt (⟨target, iter, ifs, 0⟩ :: gs) scope pos) scope f.env _ (newList []) false (eval iter f.env) (some (assign (.Name x px) f.env))) _ _ s
  refine wpAny_bind (wpAny_mono (comp_core (use := some (assign (.Name x px) f.env)) (Q := fun _ s' => PostF c f f.env η s Φn Φr .next s') ok hclos hcell hkind hnames hρ hl h hs R hE ?_) (fun _ s' hq => wpAny_pure (wpAny_pure hq)) fun _ _ e => e)
  intro D C acc η' s' m η₁ s₁ hΦ R' t₁ t' hn nC CO C1 C0 hC2
  show wpAny _ f.A (assign (.Name x px) f.env (.ref D)) _ _ _
  refine ea1_1 (R'.ns) fun mL NL => ?_
  refine wpAny_assign_Name (wpAny_storeName_local hx NL (fun h₂ hn₂ hs₂ => ?_) (by show (f.cs.kind == .class || (f.cs.kind == .module && f.L != mainGlobals)) = false; rw [ok.hk]; rfl))
  refine ea0_2 (R'.store (n := s'.toks + 1) rfl hx NL hn₂ hs₂ (.val (.ref D))) fun R₂ t₂ => ?_
  have hn' : h₂.Ns C m := hn.sameBut hs₂ C1
  refine ⟨m, hn', fun h₅ hs₅ => ?_⟩
  refine ea3_3 (id hn') fun oC es ep eC dC _ => ?_
  have k₅ : ∀ b o, b ≠ C → h₂.get? b = some o → h₅.get? b = some o := fun b o ne e => (hs₅.2 b ne).trans e
  obtain ⟨R₅, tk₅⟩ := R₂.but (tk := s'.toks + 1) eC (fun v q => by rw [dC] at q; cases q) (fun _ _ => .inl fun q => by rw [dC] at q; cases q) nC CO C1 C0 k₅
  exact .inl ⟨rfl, _, _, R₅, t₁.trans ((t'.trans t₂).but hC2 CO tk₅ k₅), hΦ D⟩
/-- «x = [..]», the name taking the list's place -/
theorem Ex.assignComp {target elt iter : Expr} {ifs : List Expr} {scope : Scope} {cl : List (Str × Addr)} {pos spos px : Pos} {x : Str} {ρ' : Locals} {Φn : Locals → Store → Prop} {Φr : AV → Store → Prop} (ok : FOk c f n) (hx : f.env.kindOf x = some .local)
    (hsw : swapsWith (.ListComp elt [⟨target, iter, ifs, 0⟩] scope pos) (some (.Name x px)) spos.line f.env = pure true)
    (hclos : closureFor scope f.env = pure cl) (hcell : ∀ y ∈ scope.names, y.2 ≠ .cell) (hkind : scope.kind = .function) (hnames : ∀ y ∈ scope.names, y.2 = .local → scope.names.lookup y.1 = some .local) (hifs : ifs.length ≤ 1)
    (hρ : ∀ C x av, ρ'.lookup x = some av → ρ.lookup x = some av ∧ f.env.kindOf x = some .cell ∧ cl.lookup x = f.env.cells.lookup x ∧ (compEnvC scope cl C f.env).kindOf x = some .cell)
    (h : Ev c f f.env iter ρ η (fun a η₁ => ∃ items dep η₂, Src c f target a η₁ η₂ items dep ∧ Dep dep η₂ ∧ items.length ≤ 1000000 ∧ ∀ C, CompS c f (compEnvC scope cl C f.env) target ifs elt ρ' dep (fun acc η' => ∀ D, Φn ((x, .val (.ref D)) :: ρ) ((D, .list acc) :: η')) Ψ items [] η₂) Ψ)
    (hs : ∀ env x, foldedSetIterable iter env x = pure x := by intro _ _; rfl) :
    Ex c f f.env (.Assign [.Name x px] (.ListComp elt [⟨target, iter, ifs, 0⟩] scope pos) spos) ρ η Φn Φr Ψ :=
  .assignShell ok hx hsw hclos hcell hkind hnames hρ (LoopC.one hifs) (h.mono fun _ _ z => evs_le z) hs
end
/-! ### a comprehension with two loops, no tests, nothing raised -/
noncomputable abbrev twoC (elt t1 i1 t2 i2 : Expr) (scope : Scope) (pos : Pos) : Expr := .ListComp elt [⟨t1, i1, [], 0⟩, ⟨t2, i2, [], 0⟩] scope pos
theorem turn_out (elt t1 i1 t2 i2 : Expr) (scope : Scope) (pos : Pos) (it acc : Value) (env : Env) :
    compTurn (twoC elt t1 i1 t2 i2 scope pos) 0 it acc env = (do
      standAt i1.pos
      match ← pyNext it with
      | none => pure (.done .next)
      | some v =>
        letOwnedTupleGo t1 it v
        assign t1 env v
        let x ← eval i2 env
        standAt i2.pos
        let x ← foldedSetIterable i2 env x
        let y ← holding [x] (pyIter x)
        let _ ← runOwn (.compStart (twoC elt t1 i1 t2 i2 scope pos) 1 y acc env) env
        again (.compLoop (twoC elt t1 i1 t2 i2 scope pos) 0 it acc env)) := by rfl
theorem turn_in (elt t1 i1 t2 i2 : Expr) (scope : Scope) (pos : Pos) (it acc : Value) (env : Env) :
    compTurn (twoC elt t1 i1 t2 i2 scope pos) 1 it acc env = (do
      standAt i2.pos
      match ← pyNext it with
      | none => pure (.done .next)
      | some v =>
        letOwnedTupleGo t2 it v
        assign t2 env v
        (do let _ ← call (.builtin "list.append") [acc, ← eval elt env])
        again (.compLoop (twoC elt t1 i1 t2 i2 scope pos) 1 it acc env)) := by rfl
section
variable {prog : Program} {w : World} {A : Around} {E : Value → Shared → Prop} {R : Result → Shared → Prop} {s : Shared}
theorem loop_in {elt t1 i1 t2 i2 : Expr} {scope : Scope} {pos : Pos} {it acc : Value} {env : Env} (I : Nat → Shared → Prop)
    (turn : ∀ n s (E : Value → Shared → Prop), I n s → wpAny (model prog w) A (pyNext it) (fun r s₁ => match r with
      | none => R (.ok .next) s₁
      | some v => wpAny (model prog w) A (letOwnedTupleGo t2 it v) (fun _ s₂ => wpAny (model prog w) A (assign t2 env v) (fun _ s₃ => wpAny (model prog w) A (eval elt env) (fun x s₄ =>
          wpAny (model prog w) A (call (.builtin "list.append") [acc, x]) (fun _ s₅ => ∃ m, m < n ∧ I m s₅) E s₄) E s₃) E s₂) E s₁) E s)
    (n : Nat) (h : I n s) : codeAny (model prog w) A (.compLoop (twoC elt t1 i1 t2 i2 scope pos) 1 it acc env) R s := by
  refine codeAny_loop rfl I (fun n s hI => ?_) n h
  show wpAny _ A ((compTurn (twoC elt t1 i1 t2 i2 scope pos) 1 it acc env).onRaise (fun x => do noteFrame x env; theTreesLotGoes x)) _ _ s
  refine wpAny_noted ?_
  rw [turn_in]
  refine wpAny_bind (wpAny_standAt (wpAny_bind (wpAny_mono (turn n s _ hI) (fun r s₁ h₁ => ?_) fun _ _ h' => h')))
  cases r with
  | none => exact wpAny_pure h₁
  | some v => exact wpAny_bind (wpAny_mono h₁ (fun _ s₂ h₂ => wpAny_bind (wpAny_mono h₂ (fun _ s₃ h₃ => wpAny_bind (wpAny_bind (wpAny_mono h₃ (fun x s₄ h₄ => wpAny_bind (wpAny_mono h₄ (fun _ s₅ h₅ => wpAny_pure (wpAny_pure ⟨rfl, h₅⟩)) fun _ _ q => q)) fun _ _ q => q))) fun _ _ q => q)) fun _ _ q => q)
theorem loop_out {elt t1 i1 t2 i2 : Expr} {scope : Scope} {pos : Pos} {it acc : Value} {env : Env} (I : Nat → Shared → Prop) (hs : ∀ env x, foldedSetIterable i2 env x = pure x)
    (turn : ∀ n s (E : Value → Shared → Prop), I n s → wpAny (model prog w) A (pyNext it) (fun r s₁ => match r with
      | none => R (.ok .next) s₁
      | some v => wpAny (model prog w) A (letOwnedTupleGo t1 it v) (fun _ s₂ => wpAny (model prog w) A (assign t1 env v) (fun _ s₃ => wpAny (model prog w) A (eval i2 env) (fun x s₄ =>
          wpAny (model prog w) A (pyIter x) (fun y s₅ => codeAny (model prog w) (A.mark none) (.compStart (twoC elt t1 i1 t2 i2 scope pos) 1 y acc env) (fun r s₆ => match r with | .ok _ => ∃ m, m < n ∧ I m s₆ | .error _ => False) s₅) E s₄) E s₃) E s₂) E s₁) E s)
    (n : Nat) (h : I n s) : codeAny (model prog w) A (.compLoop (twoC elt t1 i1 t2 i2 scope pos) 0 it acc env) R s := by
  refine codeAny_loop rfl I (fun n s hI => ?_) n h
  show wpAny _ A ((compTurn (twoC elt t1 i1 t2 i2 scope pos) 0 it acc env).onRaise (fun x => do noteFrame x env; theTreesLotGoes x)) _ _ s
  refine wpAny_noted ?_
  rw [turn_out]
  refine wpAny_bind (wpAny_standAt (wpAny_bind (wpAny_mono (turn n s _ hI) (fun r s₁ h₁ => ?_) fun _ _ h' => h')))
  cases r with
  | none => exact wpAny_pure h₁
  | some v =>
    refine wpAny_bind (wpAny_mono h₁ (fun _ s₂ h₂ => wpAny_bind (wpAny_mono h₂ (fun _ s₃ h₃ => wpAny_bind (wpAny_mono h₃ (fun x s₄ h₄ => wpAny_bind (wpAny_standAt ?_)) fun _ _ q => q)) fun _ _ q => q)) fun _ _ q => q)
    rw [hs]
    refine wpAny_bind (wpAny_pure (wpAny_bind (wpAny_holding (wpAny_mono h₄ (fun y s₅ h₅ => wpAny_bind (wpAny_runOwn (codeAny_mono h₅ fun r s₆ h₆ => ?_))) fun _ _ q => q))))
    cases r with
    | ok fl => exact wpAny_pure ⟨rfl, h₆⟩
    | error e => exact h₆.elim
theorem start_in {elt t1 i1 t2 i2 : Expr} {scope : Scope} {pos : Pos} {it acc : Value} {env : Env}
    (h0 : codeAny (model prog w) A (.compLoop (twoC elt t1 i1 t2 i2 scope pos) 1 it acc env) R s)
    (h : ∀ E : Value → Shared → Prop, wpAny (model prog w) A (pyIter it) (fun it' s' => codeAny (model prog w) A (.compLoop (twoC elt t1 i1 t2 i2 scope pos) 1 it' acc env) R s') E s) :
    codeAny (model prog w) A (.compStart (twoC elt t1 i1 t2 i2 scope pos) 1 it acc env) R s := by
  refine codeAny_of_tree ?_
  show wpAny _ _ ((compStart (twoC elt t1 i1 t2 i2 scope pos) 1 it acc env).onRaise (fun x => do noteFrame x env; standAt theWindowsPlace)) _ _ s
  refine wpAny_notedAt ?_
  unfold compStart
  show wpAny _ _ (ask >>= _) _ _ s
  refine wpAny_bind (wpAny_askSetting (wpAny_ite ?_))
  split
  · exact wpAny_pure ⟨rfl, h0⟩
  · refine wpAny_bind (wpAny_rule ?_)
    refine wpAny_bind (wpAny_standAt (wpAny_bind (wpAny_mono (h _) (fun it' s' h' => wpAny_pure ⟨rfl, h'⟩) fun _ _ q => q)))
end
/-- the inner block, and the outer -/
noncomputable def CompIn (c : Cx) (f : Fx) (cenv : Env) (t2 elt : Expr) (ρ : Locals) (dep depO : Option (Addr × AObj)) (Φ : List AV → Store → Prop) : List AV → List AV → Store → Prop
  | [], acc, η => Φ acc η
  | d :: ds, acc, η => ∃ prs, acc.length ≤ 1000000 ∧ (∀ x av, ρ.lookup x = some av → prs.lookup x = none) ∧ Asg c f cenv t2 d prs ∧ Ev c f cenv elt (prs ++ ρ) η (fun a η' => Dep dep η' ∧ Dep depO η' ∧ CompIn c f cenv t2 elt ρ dep depO Φ ds (acc ++ [a]) η') Exc.no
noncomputable def CompOut (c : Cx) (f : Fx) (cenv : Env) (t1 t2 i2 elt : Expr) (ρ : Locals) (depO : Option (Addr × AObj)) (Φ : List AV → Store → Prop) : List AV → List AV → Store → Prop
  | [], acc, η => Φ acc η
  | d :: ds, acc, η => ∃ prs, (∀ x av, ρ.lookup x = some av → prs.lookup x = none) ∧ Asg c f cenv t1 d prs ∧ Ev c f cenv i2 (prs ++ ρ) η (fun a η₁ => ∃ items dep, Src c f t2 a η₁ η₁ items dep ∧ Dep dep η₁ ∧ Dep depO η₁ ∧
      CompIn c f cenv t2 elt (prs ++ ρ) dep depO (fun acc η' => CompOut c f cenv t1 t2 i2 elt ρ depO Φ ds acc η') items acc η₁) Exc.no
/-- what stays while the inner loop turns -/
inductive InI (c : Cx) (f : Fx) (ce : Env) (t2 elt : Expr) (D : Addr) (wr : List Addr) (η₁ : Store) (s₂ : Shared) (ρ' : Locals) (dep depO : Option (Addr × AObj)) (Φs : List AV → Store → Prop) (items : List AV) (It ItO : Nat → Heap → Prop) (iO : Nat) (j : Nat) (s : Shared) : Prop
  | mk (acc : List AV) (η' : Store) (i : Nat) (e : j = items.length + 1 - i) (hi : i ≤ items.length) (b : Blk c f ce D wr η₁ s₂ ρ' η' acc s) (hit : It i s.heap) (hito : ItO iO s.heap) (hd : Dep dep η') (hdO : Dep depO η') (hS : CompIn c f ce t2 elt ρ' dep depO Φs (items.drop i) acc η')
/-- what stays while the outer loop turns -/
inductive OutI (c : Cx) (f : Fx) (ce : Env) (t1 t2 i2 elt : Expr) (D : Addr) (wr : List Addr) (η₁ : Store) (s₂ : Shared) (ρ' : Locals) (depO : Option (Addr × AObj)) (Φs : List AV → Store → Prop) (items : List AV) (It : Nat → Heap → Prop) (j : Nat) (s : Shared) : Prop
  | mk (acc : List AV) (η' : Store) (i : Nat) (e : j = items.length + 1 - i) (hi : i ≤ items.length) (b : Blk c f ce D wr η₁ s₂ ρ' η' acc s) (hit : It i s.heap) (hd : Dep depO η') (hS : CompOut c f ce t1 t2 i2 elt ρ' depO Φs (items.drop i) acc η')
section
variable {c : Cx} {f : Fx} {ρ : Locals} {η : Store} {n : Nat}
theorem Blk.fewer {ce : Env} {D : Addr} {wr wr' : List Addr} {η₁ : Store} {s₂ s : Shared} {acc : List AV} (h : ∀ b ∈ wr', b ∈ wr) (b : Blk c f ce D wr η₁ s₂ ρ η acc s) : Blk c f ce D wr' η₁ s₂ ρ η acc s := by
  obtain ⟨R, t, m, hn, ys, k, hD, ra, nD, nI⟩ := b
  exact ⟨R, t, m, hn, ys, k, hD, ra, nD, fun a ha => nI a (h a ha)⟩
theorem Blk.kp {ce : Env} {D : Addr} {wr : List Addr} {η₁ η' : Store} {s₂ s s' : Shared} {acc : List AV} (S : BlkC f ce D wr η₁ s₂) (b : Blk c f ce D wr η₁ s₂ ρ η acc s) (t : Stp f ce η η' s s') : ∀ a ∈ wr, ∀ o, s.heap.get? a = some o → s'.heap.get? a = some o := fun a ha o e => by
  obtain ⟨R, _, m, hn, ys, k, hD, ra, nD, nI⟩ := b
  exact t.kp' e (nI a ha) (S.IO a ha)
theorem comp_in {elt t1 i1 t2 i2 : Expr} {scope : Scope} {pos : Pos} {ce : Env} {ρ' : Locals} {dep depO : Option (Addr × AObj)} {items itemsO : List AV} {I I₀ D : Addr} {wr wrO wr2 : List Addr} {It ItO : Nat → Heap → Prop} {iO : Nat} {s₂ : Shared} {η₁ : Store} {Φs : List AV → Store → Prop} {R : Result → Shared → Prop}
    (W : ItOk c f t2 I wr2 items dep It) (WO : ItOk c f t1 I₀ wrO itemsO depO ItO) (S : BlkC f ce D wr η₁ s₂) (h2 : ∀ b ∈ wr2, b ∈ wr) (hO : ∀ b ∈ wrO, b ∈ wr) (hOI : ∀ b ∈ wrO, b ∉ wr2) (hob : ∀ {i : Nat} {s : Shared}, It i s.heap → ItO iO s.heap → ∀ a ∈ wr, ∃ o, s.heap.get? a = some o)
    (hR : ∀ acc η' s', Φs acc η' → Blk c f ce D wr η₁ s₂ ρ' η' acc s' → ItO iO s'.heap → Dep depO η' → R (.ok .next) s') (j : Nat) (s : Shared)
    (h0 : InI c f ce t2 elt D wr η₁ s₂ ρ' dep depO Φs items It ItO iO j s) : codeAny (model c.prog c.w) f.A (.compLoop (twoC elt t1 i1 t2 i2 scope pos) 1 (.ref I) (.ref D) ce) R s := by
  refine loop_in (InI c f ce t2 elt D wr η₁ s₂ ρ' dep depO Φs items It ItO iO) ?_ j h0
  rintro j s E ⟨acc, η', i, rfl, hi, b, hit, hito, hd, hdO, hS⟩
  cases hdr : items.drop i with
  | nil =>
    rw [hdr] at hS
    obtain rfl := drop_end hdr hi
    exact b.done W S h2 hit fun s₁ b₁ k tk => hR acc η' s₁ hS b₁ (WO.stay hito (fun a ha o e => k a o (hOI a ha) e) tk b₁ hdO) hdO
  | cons d ds =>
    refine ea0_2 (drop_item hdr) fun hdd hdr' => ?_
    have hlt := (List.getElem?_eq_some_iff.mp hdd).1
    rw [hdr] at hS
    obtain ⟨prs, hz, hdis, ha, hS⟩ := hS
    refine b.turn W S h2 hit hd hdd ha fun s₁ b₁ it₁ tk₁ k₁ _ => ?_
    have ito₁ := WO.stay hito (fun a ha o e => k₁ a o (hOI a ha) (fun q => S.IC (q ▸ hO a ha)) e) tk₁ b₁ hdO
    obtain ⟨R₁, _⟩ := id b₁
    refine wpAny_mono (hS _ _ R₁ Esc.no) (fun x s₆ h₆ => ?_) fun _ _ q => q
    obtain ⟨av, η₂', Rb, tb, rv, db, dbO, hC⟩ := h₆
    have kpI := b₁.kp S tb
    have b₆ := b₁.step S (hob it₁ ito₁) tb Rb
    have it₆ := W.stay it₁ (fun a ha => kpI a (h2 a ha)) tb.tk b₆ db
    have ito₆ := WO.stay ito₁ (fun a ha => kpI a (hO a ha)) tb.tk b₆ dbO
    refine b₆.app S hz rv fun h₇ b₇ tk₇ k₇ => ?_
    exact ⟨_, fuel_lt hlt, acc ++ [av], η₂', i + 1, rfl, hlt, b₇.sub hdis, W.stay it₆ (fun a ha o e => k₇ a o (fun q => S.ID (q ▸ h2 a ha)) e) tk₇ b₇ db, WO.stay ito₆ (fun a ha o e => k₇ a o (fun q => S.ID (q ▸ hO a ha)) e) tk₇ b₇ dbO, db, dbO, by rw [hdr']; exact hC⟩
theorem comp_out {elt t1 i1 t2 i2 : Expr} {scope : Scope} {pos : Pos} {ce : Env} {ρ' : Locals} {depO : Option (Addr × AObj)} {items : List AV} {I D : Addr} {wr : List Addr} {It : Nat → Heap → Prop} {s₂ : Shared} {η₁ : Store} {Φs : List AV → Store → Prop} {R : Result → Shared → Prop}
    (W : ItOk c f t1 I wr items depO It) (hs : ∀ env x, foldedSetIterable i2 env x = pure x) (S : BlkC f ce D wr η₁ s₂)
    (hR : ∀ acc η' s', Φs acc η' → Blk c f ce D wr η₁ s₂ ρ' η' acc s' → R (.ok .next) s') (j : Nat) (s : Shared)
    (h0 : OutI c f ce t1 t2 i2 elt D wr η₁ s₂ ρ' depO Φs items It j s) : codeAny (model c.prog c.w) f.A (.compLoop (twoC elt t1 i1 t2 i2 scope pos) 0 (.ref I) (.ref D) ce) R s := by
  refine loop_out (OutI c f ce t1 t2 i2 elt D wr η₁ s₂ ρ' depO Φs items It) hs ?_ j h0
  rintro j s E ⟨acc, η', i, rfl, hi, b, hit, hd, hS⟩
  have self : ∀ a ∈ wr, a ∈ wr := fun _ h => h
  cases hdr : items.drop i with
  | nil =>
    rw [hdr] at hS
    obtain rfl := drop_end hdr hi
    exact b.done W S self hit fun s₁ b₁ _ _ => hR acc η' s₁ hS b₁
  | cons d ds =>
    refine ea0_2 (drop_item hdr) fun hdd hdr' => ?_
    have hlt := (List.getElem?_eq_some_iff.mp hdd).1
    rw [hdr] at hS
    obtain ⟨prs, hdis, ha, hS⟩ := hS
    refine b.turn W S self hit hd hdd ha fun s₁ b₁ it₁ tk₁ k₁ _ => ?_
    obtain ⟨R₁, _⟩ := id b₁
    refine wpAny_mono (hS _ _ R₁ Esc.no) (fun x s₆ h₆ => ?_) fun _ _ q => q
    obtain ⟨av, η₂', Rb, tb, rv, items2, dep2, hsrc, db, dbO, hC⟩ := h₆
    have b₆ := b₁.step S (fun a ha => let ⟨o, e, _⟩ := W.ob _ _ it₁ a ha; ⟨o, e⟩) tb Rb
    have it₆ := W.stay it₁ (b₁.kp S tb) tb.tk b₆ dbO
    refine hsrc s₆ x _ _ _ _ Rb rv db fun _ _ I2 wr2 It2 h₇ tk₇ W2 it0 hw2 k₇ => ?_
    obtain ⟨_, t₆, m, hn, ys, k, hD, ra, nD, nI⟩ := b₆
    have new2 : ∀ b ∈ wr2, s₆.heap.get? b = none := fun b hb => (hw2 b hb).elim id fun q => absurd q.1 q.2
    have there : ∀ b o, s₆.heap.get? b = some o → b ∉ wr2 := fun b o e hb => by rw [new2 b hb] at e; cases e
    have R₇ := Rb.keeps (n := tk₇) k₇
    have b₇ : Blk c f ce D (wr2 ++ wr) η₁ s₂ (prs ++ ρ') η₂' acc { s₆ with heap := h₇, toks := tk₇ } :=
      ⟨R₇, t₆.trans (Stp.keep k₇), m, hn.keeps k₇, ys, k, k₇ _ _ hD, ra.mono (.of_keep k₇), nD, fun b hb => (List.mem_append.mp hb).elim (fun hb => (Rb.fresh (new2 b hb)).2.2.2) (nI b)⟩
    have S2 : BlkC f ce D (wr2 ++ wr) η₁ s₂ := by
      refine ⟨S.C2, S.D2, fun b hb => (List.mem_append.mp hb).elim (fun hb => ?_) (S.I2 b), fun hb => (List.mem_append.mp hb).elim (fun hb => ?_) S.IC, fun hb => (List.mem_append.mp hb).elim (there D _ hD) S.ID, S.CD, S.C0, fun b hb => (List.mem_append.mp hb).elim (fun hb => (Rb.fresh (new2 b hb)).2.2.1) (S.I0 b), S.D0, S.CO, S.DO,
        fun b hb => (List.mem_append.mp hb).elim (fun hb => (Rb.fresh (new2 b hb)).1) (S.IO b)⟩
      · cases e : s₂.heap.get? b with
        | none => exact .inl rfl
        | some o =>
          refine .inr (Classical.byContradiction fun q => ?_)
          have := t₆.kp' e q (Rb.fresh (new2 b hb)).1
          rw [new2 b hb] at this; cases this
      · exact ea1_1 hn fun oC h => ea2_1 h fun _ _ h => there _ _ h.1 hb
    have loop : codeAny (model c.prog c.w) f.A (.compLoop (twoC elt t1 i1 t2 i2 scope pos) 1 (.ref I2) (.ref D) ce) (fun r s₆ => match r with
        | .ok _ => ∃ m, m < items.length + 1 - i ∧ OutI c f ce t1 t2 i2 elt D wr η₁ s₂ ρ' depO Φs items It m s₆
        | .error _ => False) { s₆ with heap := h₇, toks := tk₇ } :=
      comp_in W2 W S2 (fun _ h => List.mem_append_left _ h) (fun _ h => List.mem_append_right _ h) (fun b hb => let ⟨o, e, _⟩ := W.ob _ _ it₆ b hb; there b o e)
        (fun h h' a ha => (List.mem_append.mp ha).elim (fun ha => let ⟨o, e, _⟩ := W2.ob _ _ h a ha; ⟨o, e⟩) fun ha => let ⟨o, e, _⟩ := W.ob _ _ h' a ha; ⟨o, e⟩)
        (fun acc' η' s' hΦ b' ito d' => ⟨_, fuel_lt hlt, acc', η', i + 1, rfl, hlt, (b'.fewer fun _ h => List.mem_append_right _ h).sub hdis, ito, d', by rw [hdr']; exact hΦ⟩)
        _ _ ⟨acc, η₂', 0, rfl, Nat.zero_le _, b₇, it0, W.stay it₆ (fun b _ o e => k₇ b o e) (.of_keep k₇) b₇ dbO, db, dbO, hC⟩
    exact start_in loop fun E => W2.self 0 _ _ _ it0 loop
theorem LoopC.two {target elt iter t2 i2 : Expr} {scope : Scope} {pos : Pos} {ρ' : Locals} {Φs : List AV → Store → Prop} {Ψ : Exc} (hs2 : ∀ env x, foldedSetIterable i2 env x = pure x) :
    LoopC c f (twoC elt target iter t2 i2 scope pos) target ρ' Φs Ψ fun cenv items dep η₂ => CompOut c f cenv target t2 i2 elt ρ' dep Φs items [] η₂ :=
  fun cenv items dep η₁ η₂ I D wr It s₂ s R _ h W S b it0 hdep _ hR => comp_out W hs2 S hR _ _ ⟨[], η₂, 0, rfl, Nat.zero_le _, b, it0, hdep, h⟩
/-- «x = [..]», the name taking the list's place -/
theorem Ex.assignPair {target elt iter t2 i2 : Expr} {scope : Scope} {cl : List (Str × Addr)} {pos spos px : Pos} {x : Str} {ρ' : Locals} {Φn : Locals → Store → Prop} {Φr : AV → Store → Prop} (ok : FOk c f n) (hx : f.env.kindOf x = some .local)
    (hsw : swapsWith (twoC elt target iter t2 i2 scope pos) (some (.Name x px)) spos.line f.env = pure true)
    (hclos : closureFor scope f.env = pure cl) (hcell : ∀ y ∈ scope.names, y.2 ≠ .cell) (hkind : scope.kind = .function) (hnames : ∀ y ∈ scope.names, y.2 = .local → scope.names.lookup y.1 = some .local)
    (hρ : ∀ C x av, ρ'.lookup x = some av → ρ.lookup x = some av ∧ f.env.kindOf x = some .cell ∧ cl.lookup x = f.env.cells.lookup x ∧ (compEnvC scope cl C f.env).kindOf x = some .cell)
    (h : Ev c f f.env iter ρ η (fun a η₁ => ∃ items dep η₂, Src c f target a η₁ η₂ items dep ∧ Dep dep η₂ ∧ ∀ C, CompOut c f (compEnvC scope cl C f.env) target t2 i2 elt ρ' dep (fun acc η' => ∀ D, Φn ((x, .val (.ref D)) :: ρ) ((D, .list acc) :: η')) items [] η₂) Exc.no)
    (hs : ∀ env x, foldedSetIterable iter env x = pure x := by intro _ _; rfl) (hs2 : ∀ env x, foldedSetIterable i2 env x = pure x := by intro _ _; rfl) :
    Ex c f f.env (.Assign [.Name x px] (twoC elt target iter t2 i2 scope pos) spos) ρ η Φn Φr Ψ :=
  .assignShell ok hx hsw hclos hcell hkind hnames hρ (LoopC.two hs2) (fun s E R _ => h s E R Esc.no) hs
end
section
variable {c : Cx} {f : Fx} {ρ : Locals} {η η' : Store} {Φ : AV → Store → Prop} {Φn : Locals → Store → Prop} {Φr : AV → Store → Prop} {Ψ : Exc} {n : Nat} {s : Shared} {E : Value → Shared → Prop}

/-- a name of the frame, in a cell or not -/
noncomputable def Knd (f : Fx) (x : Str) : Prop := f.env.kindOf x = some .local ∨ f.env.kindOf x = some .cell
theorem sto {x : Str} {v : Value} {av : AV} {Q : Unit → Shared → Prop} (ok : FOk c f n) (R : Rel c f f.env ρ η s) (r : Rv s.heap v av) (hk : Knd f x)
    (h : ∀ s', Rel c f f.env ((x, av) :: ρ) η s' → Stp f f.env η η s s' → Q () s') : wpAny (model c.prog c.w) f.A (storeName f.env x v) Q E s := by
  refine ea1_1 (R.ns) fun m N => ?_
  rcases hk with hk | hk
  · refine wpAny_storeName_local hk N (fun h' hn hs => ?_) (by show (f.cs.kind == .class || (f.cs.kind == .module && f.L != mainGlobals)) = false; rw [ok.hk]; rfl)
    refine ea0_2 (R.store (n := s.toks + 1) rfl hk N hn hs r) fun a b => ?_
    exact h _ a b
  · refine ea1_1 (Option.isSome_iff_exists.mp (cellsFrom_some (x := x) f.cs.names (f.L + 1) [] (.inl hk))) fun cl ecl => ?_
    refine ea1_1 (R.cells x cl ecl) fun u i => ?_
    refine wpAny_storeName_cell ok.hk hk ecl i fun h' hi hs => ?_
    refine ea0_2 (R.storeCell (n := s.toks) hk ecl i hi hs r) fun a b => ?_
    exact h _ a b

theorem Ex.assign {x : Str} {e : Expr} {px pos : Pos} (ok : FOk c f n) (hk : Knd f x) (h : Ev c f f.env e ρ η (fun av η' => Φn ((x, av) :: ρ) η') Ψ) (hs : swapsWith e (some (.Name x px)) pos.line f.env = pure false := by rfl) :
    Ex c f f.env (.Assign [.Name x px] e pos) ρ η Φn Φr Ψ := fun s E R hE => by
  refine wpAny_Assign_Name (wpAny_mono (h s E R hE) (fun v s₁ h₁ => ?_) fun _ _ x => x) hs
  obtain ⟨av, η₁, R₁, t₁, r₁, k₁⟩ := h₁
  exact sto ok R₁ r₁ hk fun s₂ R₂ t₂ => .inl ⟨rfl, _, _, R₂, t₁.trans t₂, k₁⟩

theorem Ex.expr {e : Expr} {pos : Pos} (h : Ev c f f.env e ρ η (fun _ η' => Φn ρ η') Ψ) (hi : interactive f.env = false := by rfl) (hs : swapsWith e none pos.line f.env = pure false := by rfl) : Ex c f f.env (.Expr e pos) ρ η Φn Φr Ψ := fun s E R hE =>
  wpAny_Expr_any (wpAny_mono (h s E R hE) (fun v s₁ ⟨av, η₁, R₁, t₁, r₁, k₁⟩ => .inl ⟨rfl, _, _, R₁, t₁, k₁⟩) fun _ _ x => x) hi hs

/-- a value is taken apart into so many -/
noncomputable def Upk (c : Cx) (f : Fx) (a : AV) (η : Store) (ds : List AV) : Prop :=
  ∀ (s : Shared) (v : Value) (env : Env) (ρ : Locals) (Q : List Value → Shared → Prop) (E : Value → Shared → Prop), Rel c f env ρ η s → Rv s.heap v a →
    (∀ vs h', RvAll s.heap vs ds → (∀ b o, s.heap.get? b = some o → h'.get? b = some o) → Q vs { s with heap := h' }) → wpAny (model c.prog c.w) f.A (unpackItems v ds.length none) Q E s
theorem Upk.tup {l : List AV} : Upk c f (.tup l) η l := by
  intro s v env ρ Q E R r hQ
  (apply Rv.eTup r; intro ax vs t r)
  rw [← r.length, ← List.size_toArray]
  exact unpackItems_tuple rfl t fun h' he => hQ _ h' (by simpa using r) fun b o e => he b o (Nat.ne_of_lt (Heap.lt_size e)) e
theorem Upk.list {a : Addr} {l : List AV} (hm : (a, .list l) ∈ η) : Upk c f (.val (.ref a)) η l := by
  intro s v env ρ Q E R r hQ
  first | apply Rv.eVal r | (apply Rv.eInt r; intro _) | (apply Rv.eStr r; intro _) | apply Rv.eBool r | cases r
  obtain ⟨oa, ea, no, nl, n0, vs, k, rfl, r⟩ := R.objs _ _ hm
  rw [← r.length, ← List.size_toArray]
  exact kun_itemsOf rfl ⟨_, ea, rfl, _, rfl⟩ fun h' he => hQ _ h' (by simpa using r) fun b o e => he b o (Nat.ne_of_lt (Heap.lt_size e)) e

theorem sto_all {xs : List Str} : ∀ {vs : List Value} {ds : List AV} {ρ : Locals} {s : Shared} {Q : Unit → Shared → Prop}, FOk c f n → Rel c f f.env ρ η s → RvAll s.heap vs ds → xs.length = ds.length → (∀ x ∈ xs, Knd f x) →
    (∀ s', Rel c f f.env ((xs.zip ds).reverse ++ ρ) η s' → Stp f f.env η η s s' → Q () s') → wpAny (model c.prog c.w) f.A (assignInOrder (xs.map fun n => bindName f.env n) vs) Q E s := by
  induction xs with
  | nil => intro vs ds ρ s Q ok R r hl _ h; exact assignInOrder_nil (h s R (.refl s))
  | cons x xs ih =>
    intro vs ds ρ s Q ok R r hl hk h
    cases r with
    | nil => simp at hl
    | cons r0 r =>
      refine assignInOrder_cons (wpAny_bindName (sto ok R r0 (hk x List.mem_cons_self) fun s₁ R₁ t₁ => ?_))
      refine ih ok R₁ (r.mono t₁.tk) (by simpa using hl) (fun y hy => hk y (List.mem_cons_of_mem _ hy)) fun s₂ R₂ t₂ => h s₂ ?_ (t₁.trans t₂)
      simpa [List.zip_cons_cons, List.reverse_cons, List.append_assoc] using R₂
/-- «x, y = a, b»: the model stores such names from the right -/
theorem Ex.assignSw {elts : List Expr} {k : Nat} {tpos pos : Pos} {value : Expr} {names : List Str} (ok : FOk c f n) (hk : ∀ x ∈ names, Knd f x)
    (h : Ev c f f.env value ρ η (fun a η₁ => ∃ ds, ds.length = names.length ∧ Upk c f a η₁ ds ∧ Φn ((names.reverse.zip ds.reverse).reverse ++ ρ) η₁) Ψ)
    (hs : swapsWithSole [.Tuple elts k tpos] value pos.line f.env = pure false := by rfl) (hw : swappedStores [.Tuple elts k tpos] value f.env = pure (some names) := by rfl) :
    Ex c f f.env (.Assign [.Tuple elts k tpos] value pos) ρ η Φn Φr Ψ := fun s E R hE => by
  refine Assign_Tuple_swapped (wpAny_mono (h s E R hE) (fun v s₁ h₁ => ?_) fun _ _ x => x) hs hw
  obtain ⟨av, η₁, R₁, t₁, r₁, ds, hl, hu, k₁⟩ := h₁
  rw [← hl]
  refine hu s₁ v _ _ _ _ R₁ r₁ fun vs h' rs kp => ?_
  have R₂ := R₁.keeps (n := s₁.toks) kp
  refine sto_all (xs := names.reverse) (ds := ds.reverse) ok R₂ ((rs.mono (.of_keep kp)).reverse) (by simp [hl]) (fun x hx => hk x (List.mem_reverse.mp hx)) fun s₃ R₃ t₃ => .inl ⟨rfl, _, _, R₃, t₁.trans ((Stp.keep kp).trans t₃), k₁⟩
/-- «x, y = e» -/
theorem asg_two {x y : Str} {px py tpos : Pos} {k : Nat} {v : Value} {av d1 d2 : AV} {Q : Unit → Shared → Prop} (ok : FOk c f n) (R : Rel c f f.env ρ η s) (r : Rv s.heap v av) (hx : Knd f x) (hy : Knd f y) (hu : Upk c f av η [d1, d2])
    (h : ∀ s', Rel c f f.env ((y, d2) :: (x, d1) :: ρ) η s' → Stp f f.env η η s s' → Q () s') : wpAny (model c.prog c.w) f.A (assign (.Tuple [.Name x px, .Name y py] k tpos) f.env v) Q E s := by
  show wpAny _ _ (do standAt tpos; unpack v (assignEach [.Name x px, .Name y py] f.env)) Q E s
  refine wpAny_bind (wpAny_standAt ?_)
  show wpAny _ _ (do assignInOrder [fun v => assign (.Name x px) f.env v, fun v => assign (.Name y py) f.env v] (← holding [v] (unpackItems v 2 none))) Q E s
  refine wpAny_bind (wpAny_holding (hu s v _ _ _ _ R r fun vs h' rs kp => ?_))
  have R₂ := R.keeps (n := s.toks) kp
  have rs := rs.mono (Tk.of_keep kp)
  cases rs with
  | cons r1 rs =>
  cases rs with
  | cons r2 rs =>
  cases rs
  refine assignInOrder_cons (wpAny_assign_Name (sto ok R₂ r1 hx fun s₁ R₁ t₁ => assignInOrder_cons (wpAny_assign_Name (sto ok R₁ (r2.mono t₁.tk) hy fun s₂ R₂ t₂ => assignInOrder_nil (h s₂ R₂ ((Stp.keep kp).trans (t₁.trans t₂)))))))
theorem Ex.assignTup {x y : Str} {px py tpos pos : Pos} {k : Nat} {value : Expr} (ok : FOk c f n) (hx : Knd f x) (hy : Knd f y)
    (h : Ev c f f.env value ρ η (fun a η₁ => ∃ d1 d2, Upk c f a η₁ [d1, d2] ∧ Φn ((y, d2) :: (x, d1) :: ρ) η₁) Ψ)
    (hs : swapsWithSole [.Tuple [.Name x px, .Name y py] k tpos] value pos.line f.env = pure false := by rfl) (hw : swappedStores [.Tuple [.Name x px, .Name y py] k tpos] value f.env = pure none := by rfl) :
    Ex c f f.env (.Assign [.Tuple [.Name x px, .Name y py] k tpos] value pos) ρ η Φn Φr Ψ := fun s E R hE => by
  refine Assign_Tuple (wpAny_mono (h s E R hE) (fun v s₁ h₁ => ?_) fun _ _ x => x) hs hw
  obtain ⟨av, η₁, R₁, t₁, r₁, d1, d2, hu, k₁⟩ := h₁
  exact asg_two ok R₁ r₁ hx hy hu fun s₂ R₂ t₂ => .inl ⟨rfl, _, _, R₂, t₁.trans t₂, k₁⟩

theorem setItem_at {prog : Program} {w : World} {A : Around} {l : Addr} {items : Array Value} {n : Nat} {k : Int} {t : Tok} {v : Value} {Q : Unit → Shared → Prop} (ho : s.heap.get? l = some (listOf items n))
    (h0 : 0 ≤ k) (hfit : k < 2 ^ 63) (hn : k < items.size)
    (hQ : ∀ h', (∃ n', h'.get? l = some (listOf (items.setIfInBounds k.toNat v) n')) → Heap.SameBut l s.heap h' → Q () { s with heap := h' }) :
    wpAny (model prog w) A (setItem (.ref l) (.int k t) v) Q E s := by
  have hl : s.heap.IsList l items := ⟨_, ho, rfl, n, rfl⟩
  unfold setItem
  try with_reducible refine wpAny_holding ?_
  first | refine wpAny_bind (wpAny_pure ?_) | skip
  refine wpAny_bind (wpAny_sequenceKey hl.typeIs (by decide) ?_)
  refine wpAny_bind (wpAny_callSpecial?_slot (name := Str.ofString "__setitem__") hl.typeIs slot_list_setitem
    (wpAny_call_entry slot_list_setitem hl.typeIs entry_list_setitem ?_ (args_list_setitem _ _ _)))
  show wpAny _ _ (Builtin.List.listSubscript? (.int k t) >>= _) _ _ s
  refine wpAny_bind (wpAny_listSubscript_int (fitsIndex_of h0 hfit) ?_)
  clear hfit
  refine ea1_1 (Int.eq_ofNat_of_zero_le h0) fun j yq1 => ?_; subst yq1
  have hj : j < items.size := by lia
  have hx' : items[j]? = some items[j] := Array.getElem?_eq_getElem hj
  show wpAny _ _ ((seqItemAt l j >>= fun r => pure (r.map (j, ·))) >>= _) _ _ s
  refine wpAny_bind (wpAny_bind (wpAny_seqItemAt ho rfl (wpAny_pure ?_)))
  rw [hx']
  show wpAny _ _ (setSeqItemAt l j v >>= _) _ _ s
  have hfin : ∃ n', (s.heap.update l (Obj.mapSeq (·.setIfInBounds j v))).get? l = some (listOf (items.setIfInBounds j v) n') :=
    ⟨_, Heap.get?_update_self _ ho rfl⟩
  refine wpAny_bind (wpAny_setSeqItemAt ho rfl ?_)
  first
    | exact wpAny_bind (wpAny_pure (wpAny_pure ⟨.none, rfl, wpAny_pure (hQ _ hfin (Heap.SameBut.update ..))⟩))
    | exact wpAny_pure ⟨.none, rfl, wpAny_pure (hQ _ hfin (Heap.SameBut.update ..))⟩
theorem RvAll.set {h : Heap} {vs : List Value} {ds : List AV} (r : RvAll h vs ds) : ∀ (i : Nat) {v : Value} {d : AV}, Rv h v d → RvAll h (vs.set i v) (ds.set i d) := by
  induction vs generalizing ds with
  | nil => cases r; intro i v d _; exact .nil
  | cons u vs ih =>
    cases r with
    | cons r r' => intro i v d k; cases i with
      | zero => exact .cons k r'
      | succ i => exact .cons r (ih r' i k)

theorem Ex.setItem {o i value : Expr} {pos' pos : Pos} (h : Ev c f f.env value ρ η (fun v η₁ => Ev c f f.env o ρ η₁ (fun a η₂ => Ev c f f.env i ρ η₂ (fun j η₃ => ∃ D l l' k, a = .val (.ref D) ∧ j = .int k ∧ 0 ≤ k ∧ k.toNat < l.length ∧ l.length ≤ 1000000 ∧ l' = l.set k.toNat v ∧ ∃ η₄, Up D (.list l) (.list l') η₃ η₄ ∧ Φn ρ η₄) Ψ) Ψ) Ψ)
    (hs : swapsWith value (some (.Subscript o i pos')) pos.line f.env = pure false := by rfl) : Ex c f f.env (.Assign [.Subscript o i pos'] value pos) ρ η Φn Φr Ψ := fun s E R hE => by
  refine wpAny_Assign_Subscript (wpAny_mono (h s E R hE) (fun v s₁ h₁ => ?_) fun _ _ x => x) hs
  obtain ⟨av, η₁, R₁, t₁, r₁, k₁⟩ := h₁
  refine wpAny_mono (k₁ s₁ E R₁ (hE.on R t₁)) (fun ov s₂ h₂ => ?_) fun _ _ x => x
  obtain ⟨bv, η₂, R₂, t₂, r₂, k₂⟩ := h₂
  refine wpAny_mono (k₂ s₂ E R₂ (hE.on R (t₁.trans t₂))) (fun iv s₃ h₃ => ?_) fun _ _ x => x
  obtain ⟨cv, η₃, R₃, t₃, r₃, D, l, l', k, rfl, rfl, h0, hk, hz, rfl, η₄, hu, k₃⟩ := h₃
  first | apply Rv.eVal r₂ | (apply Rv.eInt r₂; intro _) | (apply Rv.eStr r₂; intro _) | apply Rv.eBool r₂ | cases r₂
  first | apply Rv.eVal r₃ | (apply Rv.eInt r₃; intro _) | (apply Rv.eStr r₃; intro _) | apply Rv.eBool r₃ | cases r₃
  rename_i t
  obtain ⟨oa, ea, no, nl, n0, vs, m, rfl, r⟩ := R₃.objs _ _ hu.mem.1
  have hlen := r.length
  have rv := (r₁.mono (t₂.trans t₃).tk)
  refine setItem_at ea h0 (by lia) (by rw [List.size_toArray]; lia) fun h' hl hs => ?_
  refine ea1_1 hl fun n' e' => ?_; try clear hl
  have tk := R₃.tkUp hu hs
  refine .inl ⟨rfl, _, _, R₃.up (n := s₃.toks) hu hs e' ⟨vs.set k.toNat v, n', by simp, (r.mono tk).set _ (rv.mono tk)⟩, (t₁.trans (t₂.trans t₃)).trans (Stp.up R₃ hu hs e'), k₃⟩
end
section
variable {c : Cx} {f : Fx} {ρ : Locals} {η η' : Store} {Φ : AV → Store → Prop} {Φn : Locals → Store → Prop} {Φr : AV → Store → Prop} {Ψ : Exc} {n : Nat} {s : Shared} {E : Value → Shared → Prop}

/-- a loop's target takes an item -/
noncomputable def AsgF (c : Cx) (f : Fx) (target : Expr) (d : AV) (prs : Locals) : Prop :=
  ∀ (s : Shared) (v : Value) (ρ : Locals) (η : Store) (Q : Unit → Shared → Prop) (E : Value → Shared → Prop), Rel c f f.env ρ η s → Rv s.heap v d →
    (∀ s', Rel c f f.env (prs ++ ρ) η s' → Stp f f.env η η s s' → Q () s') → wpAny (model c.prog c.w) f.A (assign target f.env v) Q E s
theorem AsgF.name {x : Str} {px : Pos} {d : AV} (ok : FOk c f n) (hk : Knd f x) : AsgF c f (.Name x px) d [(x, d)] := fun s v ρ η Q E R r h => wpAny_assign_Name (sto ok R r hk h)
theorem AsgF.two {x y : Str} {px py tpos : Pos} {k : Nat} {d1 d2 : AV} (ok : FOk c f n) (hx : Knd f x) (hy : Knd f y) : AsgF c f (.Tuple [.Name x px, .Name y py] k tpos) (.tup [d1, d2]) [(y, d2), (x, d1)] := fun s v ρ η Q E R r h => asg_two ok R r hx hy .tup h

noncomputable def ForS (c : Cx) (f : Fx) (target : Expr) (body : List Stmt) (dep : Option (Addr × AObj)) (Φn : Locals → Store → Prop) (Φr : AV → Store → Prop) : List AV → Locals → Store → Prop
  | [], ρ, η => Φn ρ η
  | d :: ds, ρ, η => ∃ prs, AsgF c f target d prs ∧ Exs c f f.env body (prs ++ ρ) η (fun ρ' η' => Dep dep η' ∧ ForS c f target body dep Φn Φr ds ρ' η') Φr Exc.no

/-- what stays while the loop turns -/
inductive ForI (c : Cx) (f : Fx) (target : Expr) (body : List Stmt) (dep : Option (Addr × AObj)) (Φn : Locals → Store → Prop) (Φr : AV → Store → Prop) (items : List AV) (wr : List Addr) (It : Nat → Heap → Prop) (η₁ : Store) (s₁ : Shared) (j : Nat) (s : Shared) : Prop
  | mk (ρ' : Locals) (η' : Store) (i : Nat) (e : j = items.length + 1 - i) (hi : i ≤ items.length) (Rl : Rel c f f.env ρ' η' s) (t : Stp f f.env η₁ η' s₁ s) (nI : ∀ b ∈ wr, b ∉ η'.map (·.1)) (hit : It i s.heap) (hd : Dep dep η') (hF : ForS c f target body dep Φn Φr (items.drop i) ρ' η')
theorem Ex.for {target iter : Expr} {body : List Stmt} {pos : Pos}
    (h : Ev c f f.env iter ρ η (fun a η₁ => ∃ items dep η₂, Src c f target a η₁ η₂ items dep ∧ Dep dep η₂ ∧ ForS c f target body dep Φn Φr items ρ η₂) Ψ)
    (hs : ∀ env x, foldedSetIterable iter env x = pure x := by intro _ _; rfl) : Ex c f f.env (.For target iter body [] pos) ρ η Φn Φr Ψ := fun s E R hE => by
  refine wpAny_For (wpAny_mono (h s E R hE) (fun v s₁ h₁ => ?_) fun _ _ x => x) (hs _)
  obtain ⟨av, η₁, R₁, t₁, r₁, items, dep, η₂, hsrc, hdep, hS⟩ := h₁
  refine hsrc s₁ v f.env ρ _ _ R₁ r₁ hdep fun hsub hnd I wr It h' tk W it0 hI2 kp => ?_
  have R₁₂ := R₁.fewer (ρ' := ρ) (fun _ _ e => e) hsub hnd
  have wrF : ∀ b ∈ wr, b ∉ η₂.map (·.1) ∧ ¬ f.Own b ∧ f.h₀.get? b = none := fun b hb => by
    rcases hI2 b hb with q | ⟨q1, q2⟩
    · refine ea0_4 (R₁₂.fresh q) fun a1 _ a3 a4 => ?_; exact ⟨a4, a1, a3⟩
    · obtain ⟨⟨b', bo⟩, hm, rfl⟩ := List.mem_map.mp q1
      obtain ⟨_, _, n1, _, n3, _⟩ := R₁.objs _ _ hm
      exact ⟨q2, n1, n3⟩
  have hI : ∀ b ∈ wr, s₁.heap.get? b = none ∨ b ∈ η₁.map (·.1) := fun b hb => (hI2 b hb).imp id fun q => q.1
  have wO : ∀ b ∈ wr, ¬ f.Own b := fun b hb => (wrF b hb).2.1
  refine codeAny_forLoop_any (ForI c f target body dep Φn Φr items wr It η₁ s₁) ?_ (items.length + 1)
    ⟨ρ, η₂, 0, rfl, Nat.zero_le _, R₁₂.keeps kp, (Stp.keep kp).fewer hsub, fun b hb => (wrF b hb).1, it0, hdep, hS⟩
  rintro j s ⟨ρ', η', i, rfl, hi, Rl, t, nI, hit, hd, hF⟩
  have hw : ∀ b ∈ wr, b ∉ η'.map (·.1) ∧ ¬ f.Own b ∧ b ≠ f.env.locals ∧ f.h₀.get? b = none := fun b hb => ⟨nI b hb, wO b hb, fun q => wO b hb (.inl q), (wrF b hb).2.2⟩
  cases hdr : items.drop i with
  | nil =>
    rw [hdr] at hF
    obtain rfl := drop_end hdr hi
    refine W.done s _ _ hit fun h₂ tk₂ k₂ => ?_
    refine ea0_2 (Rl.buts (tk := tk₂) (W.ob _ _ hit) hw k₂) fun R₂ tk' => ?_
    exact wpAny_execs_nil (.inl ⟨rfl, ρ', η', R₂, t₁.trans (t.buts (tk := tk₂) hI wO tk' k₂), hF⟩)
  | cons d ds =>
    refine ea0_2 (drop_item hdr) fun hdd hdr' => ?_
    have hlt := (List.getElem?_eq_some_iff.mp hdd).1
    rw [hdr] at hF
    obtain ⟨prs, ha, hF⟩ := hF
    refine W.item i s _ _ hlt hit fun v d' h₂ tk₂ hd' rd ob' lgo k₂ => ?_
    obtain rfl : d = d' := by rw [hdd] at hd'; exact Option.some.inj hd'
    refine ea0_2 (Rl.buts (tk := tk₂) (W.ob _ _ hit) hw k₂) fun R₂ tk' => ?_
    have t₂ := t.buts (tk := tk₂) hI wO tk' k₂
    refine lgo _ _ _ rfl fun h₃ st₃ k₃ => ?_
    refine ea0_2 (R₂.buts (tk := tk₂) ob' hw k₃) fun R₃ tk₃ => ?_
    have t₃ := t₂.buts (tk := tk₂) hI wO tk₃ k₃
    refine ha _ v ρ' η' _ _ R₃ (rd.mono tk₃) fun s₄ R₄ t₄ => ?_
    have step : ∀ {η₁' η₂' : Store} {s₅ s₆ : Shared} {ρy : Locals} {i' : Nat}, (∀ b ∈ wr, b ∉ η₁'.map (·.1)) → It i' s₅.heap → Stp f f.env η₁' η₂' s₅ s₆ → Rel c f f.env ρy η₂' s₆ → Dep dep η₂' → (∀ b ∈ wr, b ∉ η₂'.map (·.1)) ∧ It i' s₆.heap := by
      intro η₁' η₂' s₅ s₆ ρy i' nIa ita ta Rb db
      refine ⟨fun b hb h => ?_, W.cl _ _ _ ita (fun b hb o e => ta.kp' e (nIa b hb) (wO b hb)) ta.tk fun a ao e => ?_⟩
      · rcases ta.dom _ h with h | h
        · exact nIa b hb h
        · refine ea1_2 (W.ob _ _ ita b hb) fun oJ eJ _ => ?_
          rw [eJ] at h; cases h
      · obtain ⟨o, e1, _, _, _, hc⟩ := Rb.objs a ao (db _ e)
        exact ⟨o, e1, hc⟩
    refine ea0_2 (step nI st₃ t₄ R₄ hd) fun nI₄ st₄ => ?_
    refine wpAny_mono (hF s₄ _ R₄ Esc.no) (fun fl s₅ h₅ => ?_) fun _ _ q => q
    rcases h₅ with ⟨rfl, ρ₅, η₅, R₅, t₅, hd₅, hF₅⟩ | ⟨u, rfl, av', ρ₅, η₅, R₅, t₅, r₅, hr₅⟩
    · refine ea0_2 (step nI₄ st₄ t₅ R₅ hd₅) fun nI₅ st₅ => ?_
      exact ⟨_, fuel_lt hlt, ρ₅, η₅, i + 1, rfl, hlt, R₅, t₃.trans (t₄.trans t₅), nI₅, st₅, hd₅, by rw [hdr']; exact hF₅⟩
    · exact .inr ⟨u, rfl, av', ρ₅, η₅, R₅, t₁.trans (t₃.trans (t₄.trans t₅)), r₅, hr₅⟩
end
/-! ### data -/
mutual
noncomputable def AV.pd : AV → PyData
  | .none => .none
  | .bool b => .bool b
  | .int i => .int i
  | .str x => .str x
  | .tup l => .tuple (AV.pds l)
  | .val _ => .none
noncomputable def AV.pds : List AV → List PyData
  | [] => []
  | a :: l => a.pd :: AV.pds l
end
mutual
noncomputable def AV.pure : AV → Bool
  | .val _ => false
  | .tup l => AV.pures l
  | _ => true
noncomputable def AV.pures : List AV → Bool
  | [] => true
  | a :: l => a.pure && AV.pures l
end
noncomputable def Sh (d : PyData) : Prop := d.canLay0 = true ∧ d.depth ≤ 50
noncomputable def Shs (ds : List PyData) : Prop := PyData.canLayAll0 ds = true ∧ PyData.depthAll ds ≤ 50
theorem Rv.reads {h : Heap} {v : Value} {a : AV} (r : Rv h v a) : a.pure = true → ∃ as, Reads h v a.pd as :=
  Rv.rec (motive_1 := fun v a _ => a.pure = true → ∃ as, Reads h v a.pd as) (motive_2 := fun vs l _ => AV.pures l = true → ∃ as, ReadsAll h vs (AV.pds l) as) (fun _ => ⟨_, .none⟩) (fun b _ => ⟨_, .bool b⟩) (fun i t _ => ⟨_, .int i t⟩) (fun x t _ => ⟨_, .str x t⟩)
    (fun t _ i p => t.elim fun _ t => (i p).elim fun _ q => t.2.2.elim fun _ d => ⟨_, .tuple t.1 t.2.1 d q⟩) (fun _ p => nomatch p) (fun _ => ⟨_, .nil⟩)
    (fun _ _ i j p => (i (Bool.and_eq_true_iff.mp p).1).elim fun _ q => (j (Bool.and_eq_true_iff.mp p).2).elim fun _ q' => ⟨_, .cons q q'⟩) r
theorem RvAll.reads {h : Heap} {vs : List Value} {l : List AV} (r : RvAll h vs l) : AV.pures l = true → ∃ as, ReadsAll h vs (AV.pds l) as := by
  induction l generalizing vs with
  | nil => intro _; exact RvAll.e0 r (P := fun vs => ∃ as, ReadsAll h vs [] as) ⟨_, .nil⟩
  | cons a l ih =>
    intro p
    (apply RvAll.eC r; intro x xs r r')
    exact (r.reads (Bool.and_eq_true_iff.mp p).1).elim fun _ q => (ih r' (Bool.and_eq_true_iff.mp p).2).elim fun _ q' => ⟨_, .cons q q'⟩
/-- what a value says, a list of the store's too -/
inductive PdOf (η : Store) : AV → PyData → Prop
  | here {a : AV} : a.pure = true → PdOf η a a.pd
  | list {D : Addr} {l : List AV} : (D, .list l) ∈ η → AV.pures l = true → PdOf η (.val (.ref D)) (.list (AV.pds l))
theorem shaped_of {d : PyData} (h : Sh d) : SeqAt.shaped d = true := by unfold SeqAt.shaped; rw [h.1, Bool.true_and]; exact decide_eq_true (Nat.le_trans h.2 (by decide))

section
variable {c : Cx} {f : Fx} {env : Env} {ρ : Locals} {η η' : Store} {Φ : AV → Store → Prop} {Φb : Bool → Store → Prop} {Φn : Locals → Store → Prop} {Φr : AV → Store → Prop} {Ψ : Exc} {n : Nat} {s : Shared} {E : Value → Shared → Prop}
theorem PdOf.reads {a : AV} {d : PyData} (p : PdOf η a d) (R : Rel c f env ρ η s) {v : Value} (r : Rv s.heap v a) : ∃ as, Reads s.heap v d as := by
  cases p with
  | here p => exact r.reads p
  | list m p =>
    first | apply Rv.eVal r | (apply Rv.eInt r; intro _) | (apply Rv.eStr r; intro _) | apply Rv.eBool r | cases r
    obtain ⟨o, e, _, _, _, vs, k, rfl, r⟩ := R.objs _ _ m
    refine ea1_1 (r.reads p) fun as q => ?_
    exact ⟨_, .list e rfl rfl (by simpa using q)⟩
theorem FOk.un (ok : FOk c f n) : f.A.units + 64 < cLine := by show f.un + 64 < 9900; have := ok.hu; lia

/-! ### operations without a change -/
/-- ends of operations -/
theorem Post.same {v : Value} {av : AV} {tk : Nat} (R : Rel c f env ρ η s) (r : Rv s.heap v av) (h : Φ av η) : Post c f env ρ η s Φ v { s with toks := tk } := ⟨av, η, R.toks _, .toks, r, h⟩
noncomputable abbrev binT (op : Operator) : List Value → Sem Value := fun vs => match vs with | [x, y] => binaryOp op x y | _ => unsupported ""
theorem Op.add {a b : Int} (h : Φ (.int (a + b)) η) : Op c f env (binT .Add) [.int a, .int b] ρ η Φ Ψ := fun vs s E r R _ => by
  (apply RvAll.e2 r; intro _ _ r r'); (apply Rv.eInt r; intro _); (apply Rv.eInt r'; intro _); exact PyProof.Rows.add_int (.same R (.int _ _) h)
theorem Op.sub {a b : Int} (h : Φ (.int (a - b)) η) : Op c f env (binT .Sub) [.int a, .int b] ρ η Φ Ψ := fun vs s E r R _ => by
  (apply RvAll.e2 r; intro _ _ r r'); (apply Rv.eInt r; intro _); (apply Rv.eInt r'; intro _); exact PyProof.Rows.sub_int (.same R (.int _ _) h)
theorem Op.mul {a b : Int} (h : Φ (.int (a * b)) η) (ha : a.natAbs < 2 ^ 40) (hb : b.natAbs < 2 ^ 40) : Op c f env (binT .Mult) [.int a, .int b] ρ η Φ Ψ := fun vs s E r R _ => by
  (apply RvAll.e2 r; intro _ _ r r'); (apply Rv.eInt r; intro _); (apply Rv.eInt r'; intro _); exact PyProof.Rows.mul_int (.same R (.int _ _) h) (IntMulOk.of_left (Nat.le_trans (intBits_le ha) (by decide)))
theorem Op.mod {a b : Int} (hb : b ≠ 0) (h : Φ (.int (a.fmod b)) η) : Op c f env (binT .Mod) [.int a, .int b] ρ η Φ Ψ := fun vs s E r R _ => by
  (apply RvAll.e2 r; intro _ _ r r'); (apply Rv.eInt r; intro _); (apply Rv.eInt r'; intro _); exact PyProof.Rows.mod_int hb (.same R (.int _ _) h)
theorem Op.lt {a b : Int} (h : Φ (.bool (decide (a < b))) η) : Op c f env (cmpT .Lt) [.int a, .int b] ρ η Φ Ψ := fun vs s E r R _ => by
  (apply RvAll.e2 r; intro _ _ r r'); (apply Rv.eInt r; intro _); (apply Rv.eInt r'; intro _); exact PyProof.Rows.lt_int (.here R (.bool _) h)
theorem Op.gt {a b : Int} (h : Φ (.bool (decide (b < a))) η) : Op c f env (cmpT .Gt) [.int a, .int b] ρ η Φ Ψ := fun vs s E r R _ => by
  (apply RvAll.e2 r; intro _ _ r r'); (apply Rv.eInt r; intro _); (apply Rv.eInt r'; intro _); exact PyProof.Rows.gt_int (.here R (.bool _) h)
theorem Op.eq {a b : AV} {d e : PyData} (ok : FOk c f n) (pa : PdOf η a d) (pb : PdOf η b e) (ha : Sh d) (hb : Sh e) (h : Φ (.bool (PyData.eqv d e)) η) : Op c f env (cmpT .Eq) [a, b] ρ η Φ Ψ := fun vs s E r R _ => by
  (apply RvAll.e2 r; intro _ _ r r')
  refine ea1_1 (pa.reads R r) fun as q => ?_
  refine ea1_1 (pb.reads R r') fun bs q' => ?_
  exact eq_dataH q q' (shaped_of ha) (shaped_of hb) ok.un (.here R (.bool _) h)
theorem Op.ne {a b : AV} {d e : PyData} (ok : FOk c f n) (pa : PdOf η a d) (pb : PdOf η b e) (ha : Sh d) (hb : Sh e) (h : Φ (.bool (!PyData.eqv d e)) η) : Op c f env (cmpT .NotEq) [a, b] ρ η Φ Ψ := fun vs s E r R _ => by
  (apply RvAll.e2 r; intro _ _ r r')
  refine ea1_1 (pa.reads R r) fun as q => ?_
  refine ea1_1 (pb.reads R r') fun bs q' => ?_
  exact ne_dataH q q' (shaped_of ha) (shaped_of hb) ok.un (.here R (.bool _) h)
theorem depth_ok {ds : List PyData} {d : PyData} (ok : FOk c f n) (ha : Shs ds) (hb : Sh d) : f.A.units + 1 + min (PyData.depthAll ds) d.depth < cLine := by
  have := Nat.min_le_right (PyData.depthAll ds) d.depth; have := hb.2; have := ok.un; lia
theorem Op.inL {a : AV} {d : PyData} {D : Addr} {l : List AV} (ok : FOk c f n) (pa : PdOf η a d) (m : (D, .list l) ∈ η) (p : AV.pures l = true) (ha : Shs (AV.pds l)) (hb : Sh d) (h : Φ (.bool ((AV.pds l).any fun y => PyData.eqv y d)) η) : Op c f env (cmpT .In) [a, .val (.ref D)] ρ η Φ Ψ := fun vs s E r R _ => by
  (apply RvAll.e2 r; intro _ _ r r')
  refine ea1_1 (pa.reads R r) fun as q => ?_
  refine ea1_1 ((PdOf.list m p).reads R r') fun bs q' => ?_
  exact SeqAt.in_list_reads q' q ha.1 hb.1 (depth_ok ok ha hb) (.here R (.bool _) h)
theorem Op.notInL {a : AV} {d : PyData} {D : Addr} {l : List AV} (ok : FOk c f n) (pa : PdOf η a d) (m : (D, .list l) ∈ η) (p : AV.pures l = true) (ha : Shs (AV.pds l)) (hb : Sh d) (h : Φ (.bool (!(AV.pds l).any fun y => PyData.eqv y d)) η) : Op c f env (cmpT .NotIn) [a, .val (.ref D)] ρ η Φ Ψ := fun vs s E r R _ => by
  (apply RvAll.e2 r; intro _ _ r r')
  refine ea1_1 (pa.reads R r) fun as q => ?_
  refine ea1_1 ((PdOf.list m p).reads R r') fun bs q' => ?_
  exact SeqAt.notIn_list_reads q' q ha.1 hb.1 (depth_ok ok ha hb) (.here R (.bool _) h)
theorem Op.notInT {a : AV} {d : PyData} {l : List AV} (ok : FOk c f n) (pa : PdOf η a d) (p : AV.pures l = true) (ha : Shs (AV.pds l)) (hb : Sh d) (h : Φ (.bool (!(AV.pds l).any fun y => PyData.eqv y d)) η) : Op c f env (cmpT .NotIn) [a, .tup l] ρ η Φ Ψ := fun vs s E r R _ => by
  (apply RvAll.e2 r; intro _ _ r r')
  refine ea1_1 (pa.reads R r) fun as q => ?_
  refine ea1_1 (r'.reads (a := .tup l) p) fun bs q' => ?_
  exact SeqAt.notIn_tuple_reads q' q ha.1 hb.1 (depth_ok ok ha hb) (.here R (.bool _) h)

/-! ### length, items -/
noncomputable abbrev callT (v : Value) : List Value → Sem Value := fun vs => call v vs
theorem Op.lenT {l : List AV} (hz : l.length ≤ 1000000) (h : Φ (.int l.length) η) : Op c f env (callT (.builtin "len")) [.tup l] ρ η Φ Ψ := fun vs s E r R _ => by
  (apply RvAll.e1 r; intro _ r)
  (apply Rv.eTup r; intro _ _ t r)
  refine PyProof.Rows.len_tuple t (by rw [List.size_toArray, r.length]; lia) ?_
  rw [List.size_toArray, r.length]
  exact .same R (.int _ _) h
theorem Op.lenL {D : Addr} {l : List AV} (m : (D, .list l) ∈ η) (hz : l.length ≤ 1000000) (h : Φ (.int l.length) η) : Op c f env (callT (.builtin "len")) [.val (.ref D)] ρ η Φ Ψ := fun vs s E r R _ => by
  (apply RvAll.e1 r; intro _ r)
  first | apply Rv.eVal r | (apply Rv.eInt r; intro _) | (apply Rv.eStr r; intro _) | apply Rv.eBool r | cases r
  obtain ⟨o, e, _, _, _, ws, k, rfl, r⟩ := R.objs _ _ m
  refine PyProof.Rows.len_list ⟨_, e, rfl, k, rfl⟩ (by rw [List.size_toArray, r.length]; lia) ?_
  rw [List.size_toArray, r.length]
  exact .same R (.int _ _) h

noncomputable abbrev subT (value slice : Expr) : List Value → Sem Value := fun vs => match vs with | [x, y] => subscriptTail value slice x y | _ => unsupported ""
theorem Ev.sub {value slice : Expr} {pos : Pos} (h : Ev c f env value ρ η (fun a η₁ => Ev c f env slice ρ η₁ (fun b η₂ => Op c f env (subT value slice) [a, b] ρ η₂ Φ Ψ) Ψ) Ψ) : Ev c f env (.Subscript value slice pos) ρ η Φ Ψ := fun s E R hE => by
  refine Subscript_ (wpAny_mono (h s E R hE) (fun v s₁ h₁ => ?_) fun _ _ x => x)
  obtain ⟨av, η₁, R₁, t₁, r₁, k₁⟩ := h₁
  refine wpAny_mono (k₁ s₁ E R₁ (hE.on R t₁)) (fun u s₂ h₂ => ?_) fun _ _ x => x
  obtain ⟨bv, η₂, R₂, t₂, r₂, k₂⟩ := h₂
  exact wpAny_mono (k₂ [v, u] s₂ E (.cons (r₁.mono t₂.tk) (.cons r₂ .nil)) R₂ (hE.on R (t₁.trans t₂))) (fun _ _ h => h.on (t₁.trans t₂)) fun _ _ x => x
noncomputable def Plain (slice : Expr) : Prop := ∀ o i : Value, ∃ ops, subscripted slice false o i = operate ops (getItem o i)
theorem Op.itemT {value slice : Expr} {l : List AV} {k : Int} {a : AV} (h0 : 0 ≤ k) (hk : l[k.toNat]? = some a) (hz : l.length ≤ 1000000) (h : Φ a η) (hs : Plain slice) : Op c f env (subT value slice) [.tup l, .int k] ρ η Φ Ψ := fun vs s E r R _ => by
  (apply RvAll.e2 r; intro _ _ r r')
  first | apply Rv.eVal r' | (apply Rv.eInt r'; intro _) | (apply Rv.eStr r'; intro _) | apply Rv.eBool r' | cases r'
  (apply Rv.eTup r; intro _ _ t r)
  rename_i tok ax ws
  refine ea1_2 (r.get hk) fun v ev rv => ?_
  have hlt : k.toNat < l.length := (List.getElem?_eq_some_iff.mp hk).1
  refine ea1_1 (hs (.ref ax) (.int k tok)) fun ops ho => ?_
  refine tail_any t.typeIs slot_tuple_getitem.lookup (PyProof.Rows.getItem_tuple (j := k.toNat) t (by lia) (by lia) ?_ (by simpa using ev) (.here R rv h)) ho
  have := r.length
  rw [List.size_toArray]
  have h1 : ¬ k < 0 := by lia
  unfold seqIndex?
  simp only [h1, if_false]
  rw [if_pos (by simp; lia)]
theorem Op.itemL {value slice : Expr} {D : Addr} {l : List AV} {k : Int} {a : AV} (m : (D, .list l) ∈ η) (h0 : 0 ≤ k) (hk : l[k.toNat]? = some a) (hz : l.length ≤ 1000000) (h : Φ a η) (hs : Plain slice) : Op c f env (subT value slice) [.val (.ref D), .int k] ρ η Φ Ψ := fun vs s E r R _ => by
  (apply RvAll.e2 r; intro _ _ r r')
  first | apply Rv.eVal r' | (apply Rv.eInt r'; intro _) | (apply Rv.eStr r'; intro _) | apply Rv.eBool r' | cases r'
  first | apply Rv.eVal r | (apply Rv.eInt r; intro _) | (apply Rv.eStr r; intro _) | apply Rv.eBool r | cases r
  rename_i tok
  obtain ⟨o, e, _, _, _, ws, j, rfl, r⟩ := R.objs _ _ m
  refine ea1_2 (r.get hk) fun v ev rv => ?_
  have hlt : k.toNat < l.length := (List.getElem?_eq_some_iff.mp hk).1
  have hl : s.heap.IsList D ws.toArray := ⟨_, e, rfl, j, rfl⟩
  refine ea1_1 (hs (.ref D) (.int k tok)) fun ops ho => ?_
  exact tail_any hl.typeIs slot_list_getitem.lookup (wpAny_getItem_list hl h0 (by lia) (by simpa using ev) (.here R rv h)) ho
end
section
variable {c : Cx} {f : Fx} {env : Env} {ρ : Locals} {η η' : Store} {Φ : AV → Store → Prop} {Φb : Bool → Store → Prop} {Φn : Locals → Store → Prop} {Φr : AV → Store → Prop} {Ψ : Exc} {n : Nat} {s : Shared} {E : Value → Shared → Prop}

/-! ### slices -/
noncomputable abbrev sliceO (l u st : Value) : Obj := { cls := .type "slice", dict := none, data := .fields #[l, u, st] }
theorem slice_new {l u st : Value} {Q : Value → Shared → Prop} {M : Model} {A : Around} (h : Q (.ref s.heap.objs.size) { s with heap := s.heap.push (sliceO l u st) }) : wpAny M A (newFields "slice" [l, u, st]) Q E s :=
  wpAny_newObj_type h (by first | trivial | size_fits)
theorem Ev.sliceFrom {a : Int} {k : Nat} {p pos : Pos} (h : ∀ D t, Φ (.val (.ref D)) ((D, .raw (sliceO (.int a t) .none .none)) :: η)) : Ev c f env (.Slice (some (.Constant (.int a) k p)) none none pos) ρ η Φ Ψ := fun s E R hE => by
  show wpAny _ _ (do let l ← valueOrNone (evalOpt (some (.Constant (.int a) k p)) env); let u ← holding [l] (valueOrNone (evalOpt none env)); let s ← holding [l, u] (valueOrNone (evalOpt none env)); newFields "slice" [l, u, s]) _ _ s
  refine wpAny_bind (wpAny_Constant_int (k := k) (pos := p) (wpAny_bind (wpAny_holding (wpAny_pure (wpAny_bind (wpAny_holding (wpAny_pure (slice_new ?_))))))))
  have kp : ∀ b o, s.heap.get? b = some o → (s.heap.push (sliceO (.int a s.toks) .none .none)).get? b = some o := fun b o e => Heap.get?_push_of_some _ e
  exact ⟨_, _, R.alloc (ao := .raw (sliceO (.int a s.toks) .none .none)) kp (Heap.get?_none_of_le (Nat.le_refl _)) (Heap.get?_push_size _ rfl) ⟨rfl, fun v q => (by cases q), fun vs n => .inl fun q => (by cases q)⟩, .alloc kp (Heap.get?_none_of_le (Nat.le_refl _)), .val _, h _ _⟩
theorem Ev.sliceUpto {a : Int} {k : Nat} {p pos : Pos} (h : ∀ D t, Φ (.val (.ref D)) ((D, .raw (sliceO .none (.int a t) .none)) :: η)) : Ev c f env (.Slice none (some (.Constant (.int a) k p)) none pos) ρ η Φ Ψ := fun s E R hE => by
  show wpAny _ _ (do let l ← valueOrNone (evalOpt none env); let u ← holding [l] (valueOrNone (evalOpt (some (.Constant (.int a) k p)) env)); let s ← holding [l, u] (valueOrNone (evalOpt none env)); newFields "slice" [l, u, s]) _ _ s
  refine wpAny_bind (wpAny_pure (wpAny_bind (wpAny_holding (wpAny_Constant_int (k := k) (pos := p) (wpAny_bind (wpAny_holding (wpAny_pure (slice_new ?_))))))))
  have kp : ∀ b o, s.heap.get? b = some o → (s.heap.push (sliceO .none (.int a s.toks) .none)).get? b = some o := fun b o e => Heap.get?_push_of_some _ e
  exact ⟨_, _, R.alloc (ao := .raw (sliceO .none (.int a s.toks) .none)) kp (Heap.get?_none_of_le (Nat.le_refl _)) (Heap.get?_push_size _ rfl) ⟨rfl, fun v q => (by cases q), fun vs n => .inl fun q => (by cases q)⟩, .alloc kp (Heap.get?_none_of_le (Nat.le_refl _)), .val _, h _ _⟩
theorem Ev.sliceRev {k : Nat} {p p' pos : Pos} (h : ∀ D t, Φ (.val (.ref D)) ((D, .raw (sliceO .none .none (.int (-1) t))) :: η)) : Ev c f env (.Slice none none (some (.UnaryOp .USub (.Constant (.int 1) k p) p')) pos) ρ η Φ Ψ := fun s E R hE => by
  show wpAny _ _ (do let l ← valueOrNone (evalOpt none env); let u ← holding [l] (valueOrNone (evalOpt none env)); let s ← holding [l, u] (valueOrNone (evalOpt (some (.UnaryOp .USub (.Constant (.int 1) k p) p')) env)); newFields "slice" [l, u, s]) _ _ s
  refine wpAny_bind (wpAny_pure (wpAny_bind (wpAny_holding (wpAny_pure (wpAny_bind (wpAny_holding (UnaryOp_ (op := .USub) (x := .Constant (.int 1) k p) (pos := p') (wpAny_Constant_int (k := k) (pos := p) (PyProof.Rows.neg_int (slice_new ?_))))))))))
  have kp : ∀ b o, s.heap.get? b = some o → (s.heap.push (sliceO .none .none (.int (-1) (s.toks + 1)))).get? b = some o := fun b o e => Heap.get?_push_of_some _ e
  exact ⟨_, _, R.alloc (ao := .raw (sliceO .none .none (.int (-1) (s.toks + 1)))) kp (Heap.get?_none_of_le (Nat.le_refl _)) (Heap.get?_push_size _ rfl) ⟨rfl, fun v q => (by cases q), fun vs n => .inl fun q => (by cases q)⟩, .alloc kp (Heap.get?_none_of_le (Nat.le_refl _)), .val _, h _ _⟩

/-- a slice was made for one use: the store need not tell of it -/
theorem Post.forget {v : Value} {s s' : Shared} {p : Addr × AObj} {η₀ : Store} (t : Stp f env η₀ (p :: η) s s') {av : AV} {η₁ : Store} (h : ∃ s'', s'' = s') : True := trivial

theorem Op.sliceTFrom {value slice : Expr} {l : List AV} {D : Addr} {t : Tok} {a : Nat} (h1 : 1 ≤ a) (ha : a ≤ l.length) (hz : l.length ≤ 1000000) (h : Φ (.tup (l.drop a)) η) (hs : Plain slice) :
    Op c f env (subT value slice) [.tup l, .val (.ref D)] ρ ((D, .raw (sliceO (.int a t) .none .none)) :: η) Φ Ψ := fun vs s E r R _ => by
  (apply RvAll.e2 r; intro _ _ r r')
  first | apply Rv.eVal r' | (apply Rv.eInt r'; intro _) | (apply Rv.eStr r'; intro _) | apply Rv.eBool r' | cases r'
  (apply Rv.eTup r; intro ax ws tp r)
  obtain ⟨o, e, _, _, _, rfl, _⟩ := R.objs _ _ List.mem_cons_self
  refine ea1_1 (hs (.ref ax) (.ref D)) fun ops ho => ?_
  refine tail_any tp.typeIs slot_tuple_getitem.lookup (getItem_tuple_from tp ⟨_, e, rfl, rfl⟩ h1 (by rw [List.size_toArray, r.length]; exact ha) ?_ (by rw [List.size_toArray, r.length, sizeLine_eq]; lia)) ho
  have kp : ∀ b o, s.heap.get? b = some o → (s.heap.push { cls := .type "tuple", data := .seq (ws.toArray.toList.drop a).toArray }).get? b = some o := fun b o e => Heap.get?_push_of_some _ e
  have R' := (R.keeps (n := s.toks) kp).fewer (ρ' := ρ) (η' := η) (fun _ _ e => e) (fun _ h => List.mem_cons_of_mem _ h) (List.nodup_cons.mp R.nd).2
  exact ⟨_, η, R', (Stp.keep kp).fewer fun _ h => List.mem_cons_of_mem _ h, .tup ⟨_, Heap.get?_push_size _ rfl, rfl, _, rfl⟩ (by simpa using (r.mono (.of_keep kp)).drop a), h⟩

theorem RvAll.at {h : Heap} {vs : List Value} {l : List AV} (r : RvAll h vs l) : True := trivial
theorem Op.sliceL {value slice : Expr} {l : List AV} {a D : Addr} {vl vu vs' : Value} {lo hi st : Option Int} {l' : List AV} (m : (a, .list l) ∈ η) (pl : IsPart vl lo) (pu : IsPart vu hi) (ps : IsPart vs' st) (h0 : st ≠ some 0) (hz : l.length ≤ 1000000)
    (hp : ∀ h ws, RvAll h ws l → RvAll h (slicePick ws.toArray lo hi st).toList l') (h : ∀ D', Φ (.val (.ref D')) ((D', .list l') :: η)) (hs : Plain slice) :
    Op c f env (subT value slice) [.val (.ref a), .val (.ref D)] ρ ((D, .raw (sliceO vl vu vs')) :: η) Φ Ψ := fun vs s E r R _ => by
  (apply RvAll.e2 r; intro _ _ r r')
  first | apply Rv.eVal r' | (apply Rv.eInt r'; intro _) | (apply Rv.eStr r'; intro _) | apply Rv.eBool r' | cases r'
  first | apply Rv.eVal r | (apply Rv.eInt r; intro _) | (apply Rv.eStr r; intro _) | apply Rv.eBool r | cases r
  obtain ⟨o, e, _, _, _, rfl, _⟩ := R.objs _ _ List.mem_cons_self
  obtain ⟨o', e', _, _, _, ws, k, rfl, r⟩ := R.objs _ _ (List.mem_cons_of_mem _ m)
  have hl : s.heap.IsList a ws.toArray := ⟨_, e', rfl, k, rfl⟩
  refine ea1_1 (hs (.ref a) (.ref D)) fun ops ho => ?_
  refine tail_any hl.typeIs list_getitem_lookup (wpAny_getItem_list_slice hl ⟨_, e, rfl, rfl⟩ pl pu ps h0 ?_ (by rw [List.size_toArray, r.length, sizeLine_eq]; lia)) ho
  have kp : ∀ b o, s.heap.get? b = some o → (s.heap.push { cls := .type "list", data := .seq (slicePick ws.toArray lo hi st) }).get? b = some o := fun b o e => Heap.get?_push_of_some _ e
  have R' := R.fewer (ρ' := ρ) (η' := η) (fun _ _ e => e) (fun _ h => List.mem_cons_of_mem _ h) (List.nodup_cons.mp R.nd).2
  refine ⟨_, _, R'.alloc (ao := .list l') kp (Heap.get?_none_of_le (Nat.le_refl _)) (Heap.get?_push_size _ rfl) ⟨(slicePick ws.toArray lo hi st).toList, 0, by simp, hp _ _ (r.mono (.of_keep kp))⟩, ?_, .val _, h _⟩
  have t : Stp f env ((D, .raw (sliceO vl vu vs')) :: η) ((s.heap.objs.size, .list l') :: (D, .raw (sliceO vl vu vs')) :: η) s { s with heap := s.heap.push { cls := .type "list", data := .seq (slicePick ws.toArray lo hi st) }, toks := s.toks } := .alloc kp (Heap.get?_none_of_le (Nat.le_refl _))
  exact t.fewer fun p hp => by
    rcases List.mem_cons.mp hp with rfl | hp
    · exact List.mem_cons_self
    · exact List.mem_cons_of_mem _ (List.mem_cons_of_mem _ hp)
theorem pick_upto {h : Heap} {ws : List Value} {l : List AV} (r : RvAll h ws l) (a : Nat) : RvAll h (slicePick ws.toArray none (some (a : Int)) none).toList (l.take a) := by
  have e : slicePick ws.toArray none (some (a : Int)) none = (ws.take a).toArray := by
    have := kmk_pick_nat (lo := none) (hi := some (a : Int)) ws.toArray (a := 0) (b := min a ws.length) (by simp [sliceBounds]; lia)
    rw [this]
    simp [kmk_take_min]
  rw [e]
  simpa using r.take a
theorem pick_from' {h : Heap} {ws : List Value} {l : List AV} (r : RvAll h ws l) (a : Nat) : RvAll h (slicePick ws.toArray (some (a : Int)) none none).toList (l.drop a) := by
  have e : slicePick ws.toArray (some (a : Int)) none none = (ws.drop a).toArray := by
    have := kmk_pick_nat (lo := some (a : Int)) (hi := none) ws.toArray (a := min a ws.length) (b := ws.length) (by simp [sliceBounds]; lia)
    rw [this]
    have z : (ws.length - min a ws.length) ≥ (ws.drop (min a ws.length)).length := by simp
    simp only [kmk_drop_min] at z ⊢
    rw [List.take_of_length_le z]
  rw [e]
  simpa using r.drop a
theorem pick_rev {h : Heap} {ws : List Value} {l : List AV} (r : RvAll h ws l) : RvAll h (slicePick ws.toArray none none (some (-1))).toList l.reverse := by
  rw [krv_pick]
  simpa using r.reverse

theorem adjust_rev (n : Nat) : Builtin.Slice.sliceAdjust none none (-1) (n : Int) = ((n : Int) - 1, -1) := by
  unfold Builtin.Slice.sliceAdjust
  simp
theorem places_rev (n : Nat) : Builtin.Slice.slicePlaces ((n : Int) - 1) (-1) (-1) = n := by
  unfold Builtin.Slice.slicePlaces
  simp
  lia
theorem sliceApplied_rev {prog : Program} {w : World} {A : Around} {sl : Addr} {n : Nat} {u : Tok} {Q : Int × Int × Nat → Shared → Prop} (hs : s.heap.IsSliceOf sl .none .none (.int (-1) u)) (h : Q ((n : Int) - 1, -1, n) s) :
    wpAny (model prog w) A (Builtin.Slice.sliceApplied (.ref sl) (pure (n : Int))) Q E s := by
  refine ea1_3 (id hs) fun os hos hcs hds => ?_
  unfold Builtin.Slice.sliceApplied Builtin.Slice.sliceFields
  refine wpAny_bind (wpAny_bind (wpAny_field hos hds (x := .none) rfl (wpAny_bind (wpAny_field hos hds (x := .none) rfl (wpAny_bind (wpAny_field hos hds (x := .int (-1) u) rfl (wpAny_pure ?_)))))))
  refine wpAny_bind (slicePart_int ?_)
  show wpAny _ _ (if ((-1 : Int) == 0) = true then _ else _) _ _ s
  rw [if_neg (by decide)]
  refine wpAny_bind (slicePart_none (wpAny_bind (slicePart_none (wpAny_bind (wpAny_pure ?_)))))
  show wpAny _ _ (match Builtin.Slice.sliceAdjust none none (-1) (n : Int) with | (lo, hi) => pure (lo, (-1 : Int), Builtin.Slice.slicePlaces lo hi (-1))) _ _ s
  rw [adjust_rev n]
  show wpAny _ _ (pure ((n : Int) - 1, (-1 : Int), Builtin.Slice.slicePlaces ((n : Int) - 1) (-1) (-1))) _ _ s
  rw [places_rev n]
  exact wpAny_pure h
theorem fmap_congr {α β : Type} {p q : α → Option β} : ∀ {l : List α}, (∀ x ∈ l, p x = q x) → l.filterMap p = l.filterMap q
  | [], _ => rfl
  | x :: l, h => by rw [List.filterMap_cons, List.filterMap_cons, h x List.mem_cons_self, fmap_congr fun y hy => h y (List.mem_cons_of_mem _ hy)]
theorem pick_back (xs : Array Value) : ((List.range xs.size).filterMap fun (k : Nat) => xs[((xs.size : Int) - 1 + (k : Int) * (-1)).toNat]?).toArray = xs.toList.reverse.toArray := by
  have e : ∀ k ∈ List.range xs.size, xs[((xs.size : Int) - 1 + (k : Int) * (-1)).toNat]? = (xs[·]?) (xs.size - 1 - k) := fun k hk => by
    have := List.mem_range.mp hk
    have : ((xs.size : Int) - 1 + (k : Int) * (-1)).toNat = xs.size - 1 - k := by lia
    rw [this]
  have e2 : (List.range xs.size).filterMap (fun (k : Nat) => xs[((xs.size : Int) - 1 + (k : Int) * (-1)).toNat]?) = ((List.range xs.size).map (fun k => xs.size - 1 - k)).filterMap (xs[·]?) := by
    rw [List.filterMap_map]
    exact fmap_congr e
  rw [e2, krv_range, List.filterMap_reverse, krv_all]
theorem getItem_tuple_rev {prog : Program} {w : World} {A : Around} {t sl : Addr} {items : Array Value} {u : Tok} {Q : Value → Shared → Prop} (ht : IsTup s.heap t items) (hs : s.heap.IsSliceOf sl .none .none (.int (-1) u))
    (h : Q (.ref s.heap.objs.size) { s with heap := s.heap.push { cls := .type "tuple", data := .seq items.toList.reverse.toArray } })
    (hsz : items.size ≤ sizeLine) : wpAny (model prog w) A (getItem (.ref t) (.ref sl)) Q E s := by
  have hdrop : sizeOk (.seq items.toList.reverse.toArray) := by
    show (items.toList.reverse).toArray.size ≤ sizeLine
    rw [List.size_toArray, List.length_reverse, Array.length_toList]
    exact hsz
  refine ea1_3 (id hs) fun os hos hcs hds => ?_
  have hTs : s.TypeIs (.ref sl) "slice" := ⟨os, hos, hcs⟩
  unfold getItem
  try with_reducible refine wpAny_holding ?_
  first | refine wpAny_bind (wpAny_pure ?_) | skip
  refine wpAny_bind (wpAny_sequenceKey ht.typeIs (by decide) ?_)
  refine wpAny_bind (wpAny_callSpecial?_slot (name := Str.ofString "__getitem__") ht.typeIs slot_tuple_getitem
    (wpAny_call_entry slot_tuple_getitem ht.typeIs entry_tuple_getitem ?_ (args_tuple_getitem _ _)))
  show wpAny _ _ (Builtin.Tuple.tupleItemsOf (.ref t) >>= _) _ _ s
  refine wpAny_bind (tupleItemsOf_ ht ?_)
  refine wpAny_bind (wpAny_typeOf hTs ?_)
  rw [if_pos (by decide)]
  refine wpAny_bind (sliceApplied_rev hs ?_)
  show wpAny _ _ (if ((items.size : Int) - 1 == 0 && (-1 : Int) == 1 && items.size == items.size) = true then _ else _) _ _ s
  rw [if_neg (by simp), pick_back items]
  first
    | exact wpAny_bind (m := Builtin.Tuple.tupleExact _) (wpAny_newObj_type (wpAny_pure ⟨_, rfl, wpAny_pure h⟩) hdrop)
    | exact wpAny_bind (m := Builtin.Tuple.tupleExact _) (wpAny_newObj_type (wpAny_bind (wpAny_pure (wpAny_pure ⟨_, rfl, wpAny_pure h⟩))) hdrop)
    | exact wpAny_bind (wpAny_bind (m := Builtin.Tuple.tupleExact _) (wpAny_newObj_type (wpAny_pure (wpAny_pure ⟨_, rfl, wpAny_pure h⟩)) hdrop))
    | exact wpAny_bind (wpAny_bind (m := Builtin.Tuple.tupleExact _) (wpAny_newObj_type (wpAny_pure ⟨_, rfl, wpAny_pure h⟩) hdrop))
theorem Op.sliceTRev {value slice : Expr} {l : List AV} {D : Addr} {t : Tok} (hz : l.length ≤ 1000000) (h : Φ (.tup l.reverse) η) (hs : Plain slice) :
    Op c f env (subT value slice) [.tup l, .val (.ref D)] ρ ((D, .raw (sliceO .none .none (.int (-1) t))) :: η) Φ Ψ := fun vs s E r R _ => by
  (apply RvAll.e2 r; intro _ _ r r')
  first | apply Rv.eVal r' | (apply Rv.eInt r'; intro _) | (apply Rv.eStr r'; intro _) | apply Rv.eBool r' | cases r'
  (apply Rv.eTup r; intro ax ws tp r)
  obtain ⟨o, e, _, _, _, rfl, _⟩ := R.objs _ _ List.mem_cons_self
  refine ea1_1 (hs (.ref ax) (.ref D)) fun ops ho => ?_
  refine tail_any tp.typeIs slot_tuple_getitem.lookup (getItem_tuple_rev tp ⟨_, e, rfl, rfl⟩ ?_ (by rw [List.size_toArray, r.length, sizeLine_eq]; lia)) ho
  have kp : ∀ b o, s.heap.get? b = some o → (s.heap.push { cls := .type "tuple", data := .seq ws.toArray.toList.reverse.toArray }).get? b = some o := fun b o e => Heap.get?_push_of_some _ e
  have R' := (R.keeps (n := s.toks) kp).fewer (ρ' := ρ) (η' := η) (fun _ _ e => e) (fun _ h => List.mem_cons_of_mem _ h) (List.nodup_cons.mp R.nd).2
  exact ⟨_, η, R', (Stp.keep kp).fewer fun _ h => List.mem_cons_of_mem _ h, .tup ⟨_, Heap.get?_push_size _ rfl, rfl, _, rfl⟩ (by simpa using (r.mono (.of_keep kp)).reverse), h⟩
theorem Op.sliceSUpto {value slice : Expr} {x : Str} {D : Addr} {t : Tok} {j : Int} (hz : x.length ≤ 1000000) (h : Φ (.str (Txt.slice x none (some j))) η) (hs : Plain slice) :
    Op c f env (subT value slice) [.str x, .val (.ref D)] ρ ((D, .raw (sliceO .none (.int j t) .none)) :: η) Φ Ψ := fun vs s E r R _ => by
  (apply RvAll.e2 r; intro _ _ r r')
  first | apply Rv.eVal r' | (apply Rv.eInt r'; intro _) | (apply Rv.eStr r'; intro _) | apply Rv.eBool r' | cases r'
  first | apply Rv.eVal r | (apply Rv.eInt r; intro _) | (apply Rv.eStr r; intro _) | apply Rv.eBool r | cases r
  rename_i tok
  obtain ⟨o, e, _, _, _, rfl, _⟩ := R.objs _ _ List.mem_cons_self
  refine ea1_1 (hs (.str x tok) (.ref D)) fun ops ho => ?_
  refine tail_any (typeIs_str _ _ _) F.slot_str_getitem.lookup (wpAny_getItem_str_slice (l := none) (u := some (j, t)) (st := none) ⟨_, e, rfl, rfl⟩ rfl
    (post_val_or_str ⟨Nat.le_trans (Txt.slice_le x _ _) (by rw [sizeLine_eq]; lia), fun t' k => ?_⟩)) ho
  have R' := (R.toks k).fewer (ρ' := ρ) (η' := η) (fun _ _ e => e) (fun _ h => List.mem_cons_of_mem _ h) (List.nodup_cons.mp R.nd).2
  exact ⟨_, η, R', Stp.toks.fewer fun _ h => List.mem_cons_of_mem _ h, .str _ _, h⟩
end
section
variable {c : Cx} {f : Fx} {env : Env} {ρ : Locals} {η η' : Store} {Φ : AV → Store → Prop} {Φb : Bool → Store → Prop} {Φn : Locals → Store → Prop} {Φr : AV → Store → Prop} {Ψ : Exc} {n : Nat} {s : Shared} {E : Value → Shared → Prop}

theorem FnC.noX {a : Addr} {args : List AV} (h : FnC c a n args η Φ Exc.no) : FnC c a n args η Φ Ψ := fun f env ρ vs s E ok R r _ => h f env ρ vs s E ok R r .no
theorem FnC.mono {a : Addr} {args : List AV} {Φ' : AV → Store → Prop} (h : FnC c a n args η Φ Ψ) (k : ∀ a η, Φ a η → Φ' a η) : FnC c a n args η Φ' Ψ := fun f env ρ vs s E ok R r hE => by
  refine codeAny_mono (h f env ρ vs s E ok R r hE) fun r s' z => ?_
  cases r with
  | error e => exact z
  | ok fl =>
    cases fl with
    | ret v => obtain ⟨av, η', a, b, d, e⟩ := z; exact ⟨av, η', a, b, d, k _ _ e⟩
    | _ => exact z
theorem FnC.to {a : Addr} {args : List AV} {Φ' : AV → Store → Prop} {V : AV} {Y : Store} (h : FnC c a n args η (fun v η' => v = V ∧ η' = Y) Ψ) (k : Φ' V Y) : FnC c a n args η Φ' Ψ :=
  h.mono fun _ _ z => z.1.symm ▸ z.2.symm ▸ k
theorem Op.fn {a : Addr} {args : List AV} {k : Nat} (ok : FOk c f n) (h : FnC c a k args η Φ Ψ) (hk : k ≤ n) : Op c f env (callT (.ref a)) args ρ η Φ Ψ := fun vs s E r R hE => wpAny_call (h f env ρ vs s E (ok.le hk) R r hE)
theorem Op.mono {t : List Value → Sem Value} {as : List AV} {Φ' : AV → Store → Prop} (h : Op c f env t as ρ η Φ Ψ) (k : ∀ a η, Φ a η → Φ' a η) : Op c f env t as ρ η Φ' Ψ := fun vs s E r R hE =>
  wpAny_mono (h vs s E r R hE) (fun _ _ ⟨av, η', a, b, d, e⟩ => ⟨av, η', a, b, d, k _ _ e⟩) fun _ _ x => x

/-! ### calls -/
theorem Rel.K (ok : FOk c f n) (R : Rel c f env ρ η s) : c.K.In s.heap := by refine ea1_1 (R.fr) fun m F => ?_; exact ok.X.keeps F.keep
/-- a call of a function or a class of the module -/
theorem Ev.callK {func e : Expr} {rest : List Expr} {pos : Pos} (ok : FOk c f n)
    (h : Ev c f env func ρ η (fun g η₁ => ∃ D, g = .val (.ref D) ∧ keepIn c.K (.ref D) = true ∧ Evs c f env (e :: rest) ρ η₁ (fun as η₂ => Op c f env (callT (.ref D)) as ρ η₂ Φ Ψ) Ψ) Ψ)
    (he : eval (.Call func (e :: rest) [] pos) env = (do callWith pos (← eval func env) [] (backTo pos (starEach (e :: rest) env)) (backToKw pos (keywordEach [] env))) := by rfl)
    (he2 : starEach (e :: rest) env = (false, eval e env) :: starEach rest env := by rfl) (hp : ∀ pos, (backTo pos (starEach rest env)).any (·.1) = false := by intro _; rfl) :
    Ev c f env (.Call func (e :: rest) [] pos) ρ η Φ Ψ := fun s E R hE => by
  refine Call_ (wpAny_mono (h s E R hE) (fun v s₁ h₁ => ?_) fun _ _ x => x) he
  obtain ⟨av, η₁, R₁, t₁, r₁, D, rfl, hk, h₂⟩ := h₁
  first | apply Rv.eVal r₁ | (apply Rv.eInt r₁; intro _) | (apply Rv.eStr r₁; intro _) | apply Rv.eBool r₁ | cases r₁
  refine callWith_K ok.X hk (wpAny_mono (h₂ pos s₁ E R₁ (hE.on R t₁)) (fun vs s₂ h₃ => ?_) fun _ _ x => x) he2 (hp pos)
  obtain ⟨as, η₂, R₂, t₂, r₂, k₂⟩ := h₃
  exact ⟨R₂.K ok, wpAny_mono (k₂ vs s₂ E r₂ R₂ (hE.on R (t₁.trans t₂))) (fun _ _ h => h.on (t₁.trans t₂)) fun _ _ x => x⟩
theorem Ev.callK0 {func : Expr} {pos : Pos} (ok : FOk c f n)
    (h : Ev c f env func ρ η (fun g η₁ => ∃ D, g = .val (.ref D) ∧ keepIn c.K (.ref D) = true ∧ Op c f env (callT (.ref D)) [] ρ η₁ Φ Ψ) Ψ)
    (he : eval (.Call func [] [] pos) env = (do callWith pos (← eval func env) [] (backTo pos (starEach [] env)) (backToKw pos (keywordEach [] env))) := by rfl) :
    Ev c f env (.Call func [] [] pos) ρ η Φ Ψ := fun s E R hE => by
  refine Call_ (wpAny_mono (h s E R hE) (fun v s₁ h₁ => ?_) fun _ _ x => x) he
  obtain ⟨av, η₁, R₁, t₁, r₁, D, rfl, hk, k₂⟩ := h₁
  first | apply Rv.eVal r₁ | (apply Rv.eInt r₁; intro _) | (apply Rv.eStr r₁; intro _) | apply Rv.eBool r₁ | cases r₁
  exact callWith_K0 (R₁.K ok) hk (wpAny_mono (k₂ [] s₁ E .nil R₁ (hE.on R t₁)) (fun _ _ h => h.on t₁) fun _ _ x => x)
theorem Ev.callB {func e : Expr} {rest : List Expr} {pos : Pos}
    (h : Ev c f env func ρ η (fun g η₁ => ∃ id, g = .val (.builtin id) ∧ Evs c f env (e :: rest) ρ η₁ (fun as η₂ => Op c f env (callT (.builtin id)) as ρ η₂ Φ Ψ) Ψ) Ψ)
    (he : eval (.Call func (e :: rest) [] pos) env = (do callWith pos (← eval func env) [] (backTo pos (starEach (e :: rest) env)) (backToKw pos (keywordEach [] env))) := by rfl)
    (he2 : starEach (e :: rest) env = (false, eval e env) :: starEach rest env := by rfl) (hp : ∀ pos, (backTo pos (starEach rest env)).any (·.1) = false := by intro _; rfl) :
    Ev c f env (.Call func (e :: rest) [] pos) ρ η Φ Ψ := fun s E R hE => by
  refine Call_ (wpAny_mono (h s E R hE) (fun v s₁ h₁ => ?_) fun _ _ x => x) he
  obtain ⟨av, η₁, R₁, t₁, r₁, id, rfl, h₂⟩ := h₁
  first | apply Rv.eVal r₁ | (apply Rv.eInt r₁; intro _) | (apply Rv.eStr r₁; intro _) | apply Rv.eBool r₁ | cases r₁
  refine PyProof.Rows.callWith_builtin1 (wpAny_mono (h₂ pos s₁ E R₁ (hE.on R t₁)) (fun vs s₂ h₃ => ?_) fun _ _ x => x) he2 (hp pos)
  obtain ⟨as, η₂, R₂, t₂, r₂, k₂⟩ := h₃
  exact wpAny_mono (k₂ vs s₂ E r₂ R₂ (hE.on R (t₁.trans t₂))) (fun _ _ h => h.on (t₁.trans t₂)) fun _ _ x => x
theorem Ev.callTy {func e : Expr} {rest : List Expr} {pos : Pos}
    (h : Ev c f env func ρ η (fun g η₁ => ∃ T, g = .val (.type T) ∧ Evs c f env (e :: rest) ρ η₁ (fun as η₂ => Op c f env (callT (.type T)) as ρ η₂ Φ Ψ) Ψ) Ψ)
    (he : eval (.Call func (e :: rest) [] pos) env = (do callWith pos (← eval func env) [] (backTo pos (starEach (e :: rest) env)) (backToKw pos (keywordEach [] env))) := by rfl)
    (he2 : starEach (e :: rest) env = (false, eval e env) :: starEach rest env := by rfl) (hp : ∀ pos, (backTo pos (starEach rest env)).any (·.1) = false := by intro _; rfl) :
    Ev c f env (.Call func (e :: rest) [] pos) ρ η Φ Ψ := fun s E R hE => by
  refine Call_ (wpAny_mono (h s E R hE) (fun v s₁ h₁ => ?_) fun _ _ x => x) he
  obtain ⟨av, η₁, R₁, t₁, r₁, id, rfl, h₂⟩ := h₁
  first | apply Rv.eVal r₁ | (apply Rv.eInt r₁; intro _) | (apply Rv.eStr r₁; intro _) | apply Rv.eBool r₁ | cases r₁
  refine PyProof.Rows.callWith_type1 (wpAny_mono (h₂ pos s₁ E R₁ (hE.on R t₁)) (fun vs s₂ h₃ => ?_) fun _ _ x => x) he2 (hp pos)
  obtain ⟨as, η₂, R₂, t₂, r₂, k₂⟩ := h₃
  exact wpAny_mono (k₂ vs s₂ E r₂ R₂ (hE.on R (t₁.trans t₂))) (fun _ _ h => h.on (t₁.trans t₂)) fun _ _ x => x

/-- a method is found: what is called, and what goes first -/
noncomputable def Mth (c : Cx) (f : Fx) (env : Env) (a : AV) (name : Str) (ρ : Locals) (η : Store) (g : Value) (first : List AV) : Prop :=
  ∀ (s : Shared) (v : Value) (pl : Sem Bool) (Q : Value × List Value → Shared → Prop) (E : Value → Shared → Prop), Rel c f env ρ η s → Rv s.heap v a → (∀ vs, RvAll s.heap vs first → Q (g, vs) s) → wpAny (model c.prog c.w) f.A (getMethod v name pl) Q E s
theorem Ev.methK {x name : Str} {xp apos pos : Pos} {e : Expr} {rest : List Expr} {pl : Sem Bool} (ok : FOk c f n)
    (h : Ev c f env (.Name x xp) ρ η (fun a η₁ => ∃ D first, Mth c f env a name ρ η₁ (.ref D) first ∧ keepIn c.K (.ref D) = true ∧ Evs c f env (e :: rest) ρ η₁ (fun as η₂ => Op c f env (callT (.ref D)) (first ++ as) ρ η₂ Φ Ψ) Ψ) Ψ)
    (he : eval (.Call (.Attribute (.Name x xp) name apos) (e :: rest) [] pos) env = (do
      let ov ← eval (.Name x xp) env
      standAt apos.atName
      let (f, first) ← holding [ov] (getMethod ov name pl)
      callWith pos f first (backTo pos (starEach (e :: rest) env)) []) := by rfl)
    (he2 : starEach (e :: rest) env = (false, eval e env) :: starEach rest env := by rfl) (hp : ∀ pos, (backTo pos (starEach rest env)).any (·.1) = false := by intro _; rfl) :
    Ev c f env (.Call (.Attribute (.Name x xp) name apos) (e :: rest) [] pos) ρ η Φ Ψ := fun s E R hE => by
  refine MethodCall_ (wpAny_mono (h s E R hE) (fun v s₁ h₁ => ?_) fun _ _ x => x) he
  obtain ⟨av, η₁, R₁, t₁, r₁, D, first, hm, hk, h₂⟩ := h₁
  refine hm s₁ v _ _ _ R₁ r₁ fun us ru => ?_
  refine callWith_K ok.X hk (wpAny_mono (h₂ pos s₁ E R₁ (hE.on R t₁)) (fun vs s₂ h₃ => ?_) fun _ _ x => x) he2 (hp pos)
  obtain ⟨as, η₂, R₂, t₂, r₂, k₂⟩ := h₃
  exact ⟨R₂.K ok, wpAny_mono (k₂ (us ++ vs) s₂ E ((ru.mono t₂.tk).append r₂) R₂ (hE.on R (t₁.trans t₂))) (fun _ _ h => h.on (t₁.trans t₂)) fun _ _ x => x⟩
theorem Ev.methK0 {x name : Str} {xp apos pos : Pos} {pl : Sem Bool} (ok : FOk c f n)
    (h : Ev c f env (.Name x xp) ρ η (fun a η₁ => ∃ D first, Mth c f env a name ρ η₁ (.ref D) first ∧ keepIn c.K (.ref D) = true ∧ Op c f env (callT (.ref D)) first ρ η₁ Φ Ψ) Ψ)
    (he : eval (.Call (.Attribute (.Name x xp) name apos) [] [] pos) env = (do
      let ov ← eval (.Name x xp) env
      standAt apos.atName
      let (f, first) ← holding [ov] (getMethod ov name pl)
      callWith pos f first (backTo pos (starEach [] env)) []) := by rfl) :
    Ev c f env (.Call (.Attribute (.Name x xp) name apos) [] [] pos) ρ η Φ Ψ := fun s E R hE => by
  refine MethodCall_ (wpAny_mono (h s E R hE) (fun v s₁ h₁ => ?_) fun _ _ x => x) he
  obtain ⟨av, η₁, R₁, t₁, r₁, D, first, hm, hk, k₂⟩ := h₁
  refine hm s₁ v _ _ _ R₁ r₁ fun us ru => ?_
  refine callWith_K0 (R₁.K ok) hk ?_
  rw [List.append_nil]
  exact wpAny_mono (k₂ us s₁ E ru R₁ (hE.on R t₁)) (fun _ _ h => h.on t₁) fun _ _ x => x
theorem Ev.methB {x name : Str} {xp apos pos : Pos} {e : Expr} {rest : List Expr} {pl : Sem Bool}
    (h : Ev c f env (.Name x xp) ρ η (fun a η₁ => ∃ id first, Mth c f env a name ρ η₁ (.builtin id) first ∧ Evs c f env (e :: rest) ρ η₁ (fun as η₂ => Op c f env (callT (.builtin id)) (first ++ as) ρ η₂ Φ Ψ) Ψ) Ψ)
    (he : eval (.Call (.Attribute (.Name x xp) name apos) (e :: rest) [] pos) env = (do
      let ov ← eval (.Name x xp) env
      standAt apos.atName
      let (f, first) ← holding [ov] (getMethod ov name pl)
      callWith pos f first (backTo pos (starEach (e :: rest) env)) []) := by rfl)
    (he2 : starEach (e :: rest) env = (false, eval e env) :: starEach rest env := by rfl) (hp : ∀ pos, (backTo pos (starEach rest env)).any (·.1) = false := by intro _; rfl) :
    Ev c f env (.Call (.Attribute (.Name x xp) name apos) (e :: rest) [] pos) ρ η Φ Ψ := fun s E R hE => by
  refine MethodCall_ (wpAny_mono (h s E R hE) (fun v s₁ h₁ => ?_) fun _ _ x => x) he
  obtain ⟨av, η₁, R₁, t₁, r₁, D, first, hm, h₂⟩ := h₁
  refine hm s₁ v _ _ _ R₁ r₁ fun us ru => ?_
  refine callWith_method1 (wpAny_mono (h₂ pos s₁ E R₁ (hE.on R t₁)) (fun vs s₂ h₃ => ?_) fun _ _ x => x) he2 (hp pos)
  obtain ⟨as, η₂, R₂, t₂, r₂, k₂⟩ := h₃
  exact wpAny_mono (k₂ (us ++ vs) s₂ E ((ru.mono t₂.tk).append r₂) R₂ (hE.on R (t₁.trans t₂))) (fun _ _ h => h.on (t₁.trans t₂)) fun _ _ x => x
theorem Ev.methB0 {x name : Str} {xp apos pos : Pos} {pl : Sem Bool}
    (h : Ev c f env (.Name x xp) ρ η (fun a η₁ => ∃ id first, Mth c f env a name ρ η₁ (.builtin id) first ∧ Op c f env (callT (.builtin id)) first ρ η₁ Φ Ψ) Ψ)
    (he : eval (.Call (.Attribute (.Name x xp) name apos) [] [] pos) env = (do
      let ov ← eval (.Name x xp) env
      standAt apos.atName
      let (f, first) ← holding [ov] (getMethod ov name pl)
      callWith pos f first (backTo pos (starEach [] env)) []) := by rfl) :
    Ev c f env (.Call (.Attribute (.Name x xp) name apos) [] [] pos) ρ η Φ Ψ := fun s E R hE => by
  refine MethodCall_ (wpAny_mono (h s E R hE) (fun v s₁ h₁ => ?_) fun _ _ x => x) he
  obtain ⟨av, η₁, R₁, t₁, r₁, D, first, hm, k₂⟩ := h₁
  refine hm s₁ v _ _ _ R₁ r₁ fun us ru => ?_
  refine callWith_method0 ?_
  exact wpAny_mono (k₂ us s₁ E ru R₁ (hE.on R t₁)) (fun _ _ h => h.on t₁) fun _ _ x => x

/-! ### instances -/
theorem Flds.get {h : Heap} {x : Str} {es : List DictEntry} {l : List (Str × AV)} {av : AV} (F : Flds h es l) : l.lookup x = some av → ∃ v, getL x es = some (some v) ∧ Rv h v av := by
    refine Flds.ind (P := fun es l => l.lookup x = some av → ∃ v, getL x es = some (some v) ∧ Rv h v av) (fun e => nomatch e) (fun e r y d r' t k rv q ih z => ?_) F
    rw [List.lookup_cons] at z
    unfold getL
    rw [List.find?_cons]
    by_cases w : x = y
    · subst w
      simp only [beq_self_eq_true, Option.some.injEq] at z
      subst z
      rw [show e.key.isStr x = true by rw [k]; show (x == x) = true; simp]
      exact ⟨_, rfl, rv⟩
    · rw [show (x == y) = false from beq_eq_false_iff_ne.mpr w] at z
      rw [show e.key.isStr x = false by rw [k]; exact beq_eq_false_iff_ne.mpr (Ne.symm w)]
      refine ea1_2 (ih z) fun v g rv' => ?_
      refine ⟨v, ?_, rv'⟩
      unfold getL at g
      split at g
      · rename_i e' q'; rw [q']; exact g
      · split at g <;> cases g
theorem Flds.getNone {h : Heap} {x : Str} {es : List DictEntry} {l : List (Str × AV)} (F : Flds h es l) : l.lookup x = none → getL x es = some none := by
    refine Flds.ind (P := fun es l => l.lookup x = none → getL x es = some none) (fun _ => rfl) (fun e r y d r' t k rv q ih z => ?_) F
    rw [List.lookup_cons] at z
    unfold getL
    rw [List.find?_cons]
    by_cases w : x = y
    · subst w; simp at z
    · rw [show (x == y) = false from beq_eq_false_iff_ne.mpr w] at z
      rw [show e.key.isStr x = false by rw [k]; exact beq_eq_false_iff_ne.mpr (Ne.symm w)]
      have g := ih z
      unfold getL at g
      split at g
      · cases g
      · rename_i q'
        split at g
        · cases g
        · rename_i z'
          rw [q']
          have : (e :: r).any (·.refKey) = false := by
            rw [List.any_cons, show e.refKey = false by unfold DictEntry.refKey; rw [k], Bool.false_or]; simpa using z'
          simp only [this]; rfl
noncomputable def AV.handed : AV → Bool
  | .val (.builtin _) => false
  | _ => true
theorem Rv.handed {h : Heap} {v : Value} {a : AV} (r : Rv h v a) (p : a.handed = true) : handedIn v = true := by
  cases r with
  | val v => cases v <;> first | rfl | cases p
  | _ => rfl
theorem Rel.inst (R : Rel c f env ρ η s) {x dx C : Addr} {l : List (Str × AV)} (m1 : (x, .raw (instObj C dx)) ∈ η) (m2 : (dx, .flds l) ∈ η) : ∃ es k, InstAt s.heap x (instObj C dx) C (some (dictOf es k)) ∧ s.heap.get? dx = some (dictOf es k) ∧ Flds s.heap es l := by
  obtain ⟨o, e, _, _, _, rfl, _⟩ := R.objs _ _ m1
  obtain ⟨o', e', _, _, _, es, k, rfl, q⟩ := R.objs _ _ m2
  exact ⟨es, k, ⟨e, rfl, rfl, e'⟩, e', q⟩
theorem Ev.attr {x name : Str} {xp pos : Pos} {a dx C : Addr} {l : List (Str × AV)} {av : AV} {attr : Option Value} (ok : FOk c f n) (hx : ρ.lookup x = some (.val (.ref a))) (m1 : (a, .raw (instObj C dx)) ∈ η) (m2 : (dx, .flds l) ∈ η) (hl : l.lookup name = some av) (ha : av.handed = true)
    (hg : plainGet c.K C name = true) (hh : hasDictIn c.K C = true) (hf : findIn c.K (.ref C) name = some attr) (hn : noGet c.K attr = true) (h : Φ av η) (hk : env.scope.kind = .function := by rfl) (hd : (x == ("__debug__" : Str)) = false := by decide) (hcd : (x == ("__classdict__" : Str)) = false := by decide) :
    Ev c f env (.Attribute (.Name x xp) name pos) ρ η Φ Ψ := fun s E R hE => by
  refine Attribute_Name_ (wpAny_mono (Ev.name (Φ := fun a' η' => a' = .val (.ref a) ∧ η' = η) hx ⟨rfl, rfl⟩ hk hd hcd s E R hE) (fun o s₁ h₁ => ?_) fun _ _ x => x)
  obtain ⟨av', η₁, R₁, t₁, r₁, rfl, rfl⟩ := h₁
  first | apply Rv.eVal r₁ | (apply Rv.eInt r₁; intro _) | (apply Rv.eStr r₁; intro _) | apply Rv.eBool r₁ | cases r₁
  refine ea2_3 (R₁.inst m1 m2) fun es k I _ q => ?_
  refine ea1_2 (q.get hl) fun v g rv => ?_
  refine ea1_1 (R₁.fr) fun m F => ?_
  exact get_own F ok.X I hg hh hf hn g (rv.handed ha) ⟨av, η₁, R₁.toks _, t₁.trans .toks, rv, h⟩
theorem Mth.inst {a dx C g : Addr} {name : Str} {l : List (Str × AV)} (ok : FOk c f n) (m1 : (a, .raw (instObj C dx)) ∈ η) (m2 : (dx, .flds l) ∈ η) (hl : l.lookup name = none) (hg : plainGet c.K C name = true) (hf : findIn c.K (.ref C) name = some (some (.ref g))) (ht : isFn c.K (.ref g) = true) :
    Mth c f env (.val (.ref a)) name ρ η (.ref g) [.val (.ref a)] := fun s v pl Q E R r hQ => by
  first | apply Rv.eVal r | (apply Rv.eInt r; intro _) | (apply Rv.eStr r; intro _) | apply Rv.eBool r | cases r
  refine ea2_3 (R.inst m1 m2) fun es k I _ q => ?_
  refine ea1_1 (R.fr) fun m F => ?_
  exact method_inst F ok.X I hg hf ht (q.getNone hl) (hQ _ (.cons (.val _) .nil))
theorem Mth.list {D : Addr} {l : List AV} {name : Str} {id : String} (m : (D, .list l) ∈ η) (slot : Slot "list" name id) (hty : typeOf (.builtin id) = pure (.type "method_descriptor")) : Mth c f env (.val (.ref D)) name ρ η (.builtin id) [.val (.ref D)] := fun s v pl Q E R r hQ => by
  first | apply Rv.eVal r | (apply Rv.eInt r; intro _) | (apply Rv.eStr r; intro _) | apply Rv.eBool r | cases r
  obtain ⟨o, e, _, _, _, ws, k, rfl, r⟩ := R.objs _ _ m
  exact getMethod_builtin ⟨_, e, rfl⟩ PySem.F.plainAttrs_list slot hty (fun a q => by cases q; exact ⟨_, e, rfl⟩) (hQ _ (.cons (.val _) .nil))
theorem Mth.dict {D : Addr} {l : List (Str × AV)} {name : Str} {id : String} (m : (D, .dict l) ∈ η) (slot : Slot "dict" name id) (hty : typeOf (.builtin id) = pure (.type "method_descriptor")) : Mth c f env (.val (.ref D)) name ρ η (.builtin id) [.val (.ref D)] := fun s v pl Q E R r hQ => by
  first | apply Rv.eVal r | (apply Rv.eInt r; intro _) | (apply Rv.eStr r; intro _) | apply Rv.eBool r | cases r
  obtain ⟨o, e, _, _, _, kvs, hd, rk⟩ := R.objs _ _ m
  have hD := Heap.dictOf_iff.mpr ⟨o, e, hd⟩
  exact getMethod_builtin hD.typeIs PySem.F.plainAttrs_dict slot hty hD.mapOf.noDict (hQ _ (.cons (.val _) .nil))
end
section
open AutoSeq1 (wpAny_loadPart')
theorem en_new (l : Addr) (items : Array Value) (n : Nat) (dd : Option Addr) (sl : Array (Option Value)) :
    Meets (Builtin.«enumerate.__new__» ⟨[.type "enumerate", .ref l], []⟩) (fun _ R s => s.heap.get? l = some { cls := .type "tuple", dict := dd, data := .seq items n, slots := sl } ∧
      R (.ok (.ret (.ref (s.heap.push { cls := .type "tuple_iterator", data := .fields #[.ref l, .int 0 0] }).objs.size)))
        { s with heap := (s.heap.push { cls := .type "tuple_iterator", data := .fields #[.ref l, .int 0 0] }).push { cls := .type "enumerate", data := .fields #[.none, .bool false, .ref s.heap.objs.size, rawInt 0, .none, .none] } }) :=
  .of_wp fun prog w A R s h => by
    obtain ⟨hp, g, d, tk, os⟩ := s
    obtain ⟨hl, h⟩ := h
    have hsub := sub_enumerate
    have hL : Heap.IsTuple (Shared.heap ⟨hp, g, d, tk, os⟩) l items := ⟨_, hl, rfl, n, rfl⟩
    wp_walk using wpAny_loadPart' hl
    refine wpAny_stack_any fun st => wpAny_pure ?_
    split
    · rename_i c _ _ _ _ _
      cases (c == Value.type "enumerate")
      · wp_walk using wpAny_loadPart' hl, wpAny_pyIter_tuple hL
        exact ⟨_, rfl, h⟩
      · wp_walk using wpAny_loadPart' hl, wpAny_pyIter_tuple hL
        exact ⟨_, rfl, h⟩
    · wp_walk using wpAny_loadPart' hl, wpAny_pyIter_tuple hL
      exact ⟨_, rfl, h⟩
variable {prog : Program} {w : World} {A : Around} {E : Value → Shared → Prop} {s : Shared}
theorem en_call {l : Addr} {items : Array Value} {Q : Value → Shared → Prop} (hl : IsTup s.heap l items)
    (h : ∀ h', IsEnum h' (s.heap.objs.size + 1) s.heap.objs.size 0 .none → h'.get? s.heap.objs.size = some { cls := .type "tuple_iterator", dict := none, data := .fields #[.ref l, .int 0 0], slots := #[] } → (∀ b o, s.heap.get? b = some o → h'.get? b = some o) → Q (.ref (s.heap.objs.size + 1)) { s with heap := h' }) :
    wpAny (model prog w) A (call (.type "enumerate") [.ref l]) Q E s := by
  obtain ⟨⟨oc, od, da, sl⟩, e, c, n, d⟩ := hl
  simp only at c d
  subst c d
  refine callType_new F.called_enumerate (by decide) (F.typeCall_enumerate_1 _) (F.newCall_enumerate_1 _) (fun obj => F.args_object_init_2 obj _) F.entry_enumerate_new
    (en_new l items n od sl) ⟨e, ?_⟩
  have hz : (s.heap.push { cls := .type "tuple_iterator", data := .fields #[.ref l, .int 0 0] }).objs.size = s.heap.objs.size + 1 := Heap.size_push ..
  show _ ∧ _
  rw [hz]
  have he : IsEnum ((s.heap.push { cls := .type "tuple_iterator", data := .fields #[.ref l, .int 0 0] }).push
      { cls := .type "enumerate", data := .fields #[.none, .bool false, .ref s.heap.objs.size, rawInt 0, .none, .none] }) (s.heap.objs.size + 1) s.heap.objs.size 0 .none := by
    have := Heap.get?_push_size (s.heap.push { cls := .type "tuple_iterator", data := .fields #[.ref l, .int 0 0] })
      (o := { cls := .type "enumerate", data := .fields #[.none, .bool false, .ref s.heap.objs.size, rawInt 0, .none, .none] }) rfl
    rw [hz] at this; exact this
  exact ⟨⟨_, he, rfl⟩, h _ he (Heap.get?_push_of_some _ (Heap.get?_push_size _ rfl)) fun b o x => Heap.get?_push_of_some _ (Heap.get?_push_of_some _ x)⟩

theorem en_nextOf {it t : Addr} {i : Nat} {items : Array Value} {x : Value} {Q : Value → Shared → Prop} (hit : s.heap.IsTupleIter it t i) (ht : s.heap.IsTuple t items) (hx : items[i]? = some x)
    (hQ : ∀ h', h'.IsTupleIter it t (i + 1) → Heap.SameBut it s.heap h' → Q x { s with heap := h' }) : wpAny (model prog w) A (Builtin.SmallTypes.nextOf (.ref it)) Q E s := by
  refine ea1_3 (id hit) fun o ho hc hd => ?_
  refine ea1_3 ht fun ol hol _ zq1 => ?_; try clear ht; refine ea1_1 zq1 fun nl hdl => ?_; clear zq1
  unfold Builtin.SmallTypes.nextOf
  refine wpAny_bind (wpAny_callSpecial?_slot (name := Str.ofString "__next__") hit.typeIs F.slot_tuple_iterator_next
    (wpAny_call_entry F.slot_tuple_iterator_next hit.typeIs F.entry_tuple_iterator_next ?_ (F.args_tuple_iterator_next_1 _)))
  show wpAny _ _ (field (.ref it) 0 >>= _) _ _ s
  refine wpAny_bind (wpAny_field ho hd (x := .ref t) rfl ?_)
  show wpAny _ _ (if (Value.ref t == Value.none) = true then _ else _) _ _ s
  rw [if_neg (show ¬ ((Value.ref t == Value.none) = true) from Bool.false_ne_true)]
  show wpAny _ _ (field (.ref it) 1 >>= _) _ _ s
  refine wpAny_bind (wpAny_field ho hd (x := .int i 0) rfl ?_)
  show wpAny _ _ (seqItems? (.ref t) >>= _) _ _ s
  refine wpAny_bind (wpAny_seqItems hol hdl ?_)
  simp only [Int.toNat_natCast, hx]
  refine wpAny_bind (wpAny_setField ho hd (by simp) (wpAny_pure ⟨x, rfl, wpAny_pure (hQ _ ?_ (Heap.SameBut.update ..))⟩))
  exact ⟨_, Heap.get?_update_self _ ho (Obj.isFreed_of_fields (Obj.data_mapFields hd _)), (Obj.cls_mapFields ..).trans hc, by
    rw [Obj.data_mapFields hd]; simp [rawInt]⟩
theorem en_endOf {it t : Addr} {i : Nat} {items : Array Value} {Q : Value → Shared → Prop} (hh : A.handled = none) (hit : s.heap.IsTupleIter it t i) (ht : s.heap.IsTuple t items) (hx : items[i]? = none)
    (hE : ∀ h' e, Heap.ExtBut it s.heap h' → (∃ o, h'.get? e = some o ∧ o.cls = .type "StopIteration") → E (.ref e) { s with heap := h' }) : wpAny (model prog w) A (Builtin.SmallTypes.nextOf (.ref it)) Q E s := by
  refine ea1_3 (id hit) fun o ho hc hd => ?_
  refine ea1_3 ht fun ol hol _ zq2 => ?_; try clear ht; refine ea1_1 zq2 fun nl hdl => ?_; clear zq2
  unfold Builtin.SmallTypes.nextOf
  refine wpAny_bind (wpAny_callSpecial?_slot (name := Str.ofString "__next__") hit.typeIs F.slot_tuple_iterator_next
    (wpAny_call_entry F.slot_tuple_iterator_next hit.typeIs F.entry_tuple_iterator_next ?_ (F.args_tuple_iterator_next_1 _)))
  show wpAny _ _ (field (.ref it) 0 >>= _) _ _ s
  refine wpAny_bind (wpAny_field ho hd (x := .ref t) rfl ?_)
  show wpAny _ _ (if (Value.ref t == Value.none) = true then _ else _) _ _ s
  rw [if_neg (show ¬ ((Value.ref t == Value.none) = true) from Bool.false_ne_true)]
  show wpAny _ _ (field (.ref it) 1 >>= _) _ _ s
  refine wpAny_bind (wpAny_field ho hd (x := .int i 0) rfl ?_)
  show wpAny _ _ (seqItems? (.ref t) >>= _) _ _ s
  refine wpAny_bind (wpAny_seqItems hol hdl ?_)
  simp only [Int.toNat_natCast, hx]
  refine wpAny_bind (wpAny_rule (wpAny_bind (wpAny_setField ho hd (by simp) ?_)))
  show wpAny _ _ (newExc (.type "StopIteration") [] >>= _) _ _ _
  refine wpAny_bind ?_
  simp only [newExc, newTuple]
  refine wpAny_bind (wpAny_newObj_type ?_ (by size_fits))
  refine wpAny_bind (m := firstArgMember _ _) (wpAny_of_eq (a := Value.none) (by first | rfl | (simp only [firstArgMember]; rfl)) ?_)
  refine wpAny_newObj_type ?_ (by size_fits)
  simp only [raiseNew]
  refine wpAny_bind (wpAny_handled ?_)
  first | rw [show A.in1.handled = none from hh] | rw [hh]
  refine wpAny_bind (wpAny_pure (wpAny_throw ?_))
  exact hE _ _ (((Heap.SameBut.update ..).extBut.push _).push _) ⟨_, Heap.get?_push_size _ rfl, rfl⟩

theorem en_item {e it t : Addr} {i : Nat} {items : Array Value} {x old : Value} {Q : Option Value → Shared → Prop}
    (he : IsEnum s.heap e it i old) (hit : s.heap.IsTupleIter it t i) (ht : s.heap.IsTuple t items) (hx : items[i]? = some x) (hne : e ≠ it)
    (hQ : ∀ h' a k, IsEnumOut h' e it ((i : Int) + 1) x a → h'.IsTupleIter it t (i + 1) → IsTup h' a #[.int i k, x] →
      (∀ b o, b ≠ e → b ≠ it → s.heap.get? b = some o → h'.get? b = some o) → Q (some (.ref a)) { s with heap := h', toks := s.toks + 1 }) :
    wpAny (model prog w) A (pyNext (.ref e)) Q E s := by
  have hT : s.TypeIs (.ref e) "enumerate" := ⟨_, he, rfl⟩
  unfold pyNext
  refine wpAny_bind (wpAny_attempt (wpAny_callSpecial?_slot (name := Str.ofString "__next__") hT F.slot_enumerate_next
    (wpAny_call_entry F.slot_enumerate_next hT F.entry_enumerate_next ?_ (F.args_enumerate_next_1 _))))
  obtain ⟨hp, g, d, tk, os⟩ := s
  show wpAny _ _ (field (.ref e) 2 >>= _) _ _ _
  refine wpAny_bind (wpAny_field he rfl (x := .ref it) rfl ?_)
  refine wpAny_bind (en_nextOf hit ht hx fun h₁ hit₁ hs₁ => ?_)
  replace hs₁ : Heap.SameBut it hp h₁ := hs₁
  have he₁ : IsEnum h₁ e it i old := (hs₁.2 e hne).trans he
  show wpAny _ _ (field (.ref e) 3 >>= _) _ _ ⟨h₁, g, d, tk, os⟩
  refine wpAny_bind (wpAny_field he₁ rfl (x := rawInt i) rfl ?_)
  show wpAny _ _ (field (.ref e) 4 >>= _) _ _ ⟨h₁, g, d, tk, os⟩
  refine wpAny_bind (wpAny_field he₁ rfl (x := .none) rfl ?_)
  show wpAny _ _ (mkInt i >>= _) _ _ ⟨h₁, g, d, tk, os⟩
  refine wpAny_bind (wpAny_mkInt ?_)
  show wpAny _ _ (setField (.ref e) 3 (rawInt ((i : Int) + 1)) >>= _) _ _ ⟨h₁, g, d, tk + 1, os⟩
  refine wpAny_bind (wpAny_setField_rec he₁ (by simp) fun h₂ he₂ hs₂ => ?_)
  replace hs₂ : Heap.SameBut e h₁ h₂ := hs₂
  replace he₂ : IsEnum h₂ e it ((i : Int) + 1) old := he₂
  show wpAny _ _ (setField (.ref e) 4 .none >>= _) _ _ ⟨h₂, g, d, tk + 1, os⟩
  refine wpAny_bind (wpAny_setField_rec he₂ (by simp) fun h₃ he₃ hs₃ => ?_)
  replace hs₃ : Heap.SameBut e h₂ h₃ := hs₃
  replace he₃ : IsEnum h₃ e it ((i : Int) + 1) old := he₃
  show wpAny _ _ (newTuple [.int i tk, x] >>= _) _ _ ⟨h₃, g, d, tk + 1, os⟩
  refine wpAny_bind (wpAny_newTuple ?_)
  have kt : ∀ {b o}, b ≠ e → b ≠ it → hp.get? b = some o → (h₃.push { cls := .type "tuple", data := .seq #[.int i tk, x] }).get? b = some o := fun hbe hbi hb =>
    Heap.get?_push_of_some _ (hs₃.extBut _ _ hbe (hs₂.extBut _ _ hbe (hs₁.extBut _ _ hbi hb)))
  have he₄ : IsEnum (h₃.push { cls := .type "tuple", data := .seq #[.int i tk, x] }) e it ((i : Int) + 1) old := Heap.get?_push_of_some _ he₃
  have ht₄ : (h₃.push { cls := .type "tuple", data := .seq #[.int i tk, x] }).get? h₃.objs.size = some { cls := .type "tuple", data := .seq #[.int i tk, x] } := Heap.get?_push_size _ rfl
  have hel : h₃.objs.size ≠ e := Nat.ne_of_gt (Heap.lt_size he₃)
  have hit₄ : (h₃.push { cls := .type "tuple", data := .seq #[.int i tk, x] }).IsTupleIter it t (i + 1) := by
    refine ea1_2 ((hit₁.extBut hs₂.extBut (Ne.symm hne)).extBut hs₃.extBut (Ne.symm hne)) fun o ho r => ?_; exact ⟨o, Heap.get?_push_of_some _ ho, r⟩
  generalize h₃.push { cls := .type "tuple", data := .seq #[.int i tk, x] } = h₄ at kt he₄ ht₄ hit₄
  generalize h₃.objs.size = a at hel ht₄
  show wpAny _ _ (Builtin.SmallTypes.ownedTupleIsFree (.ref e) >>= _) _ _ ⟨h₄, g, d, tk + 1, os⟩
  refine wpAny_bind ?_
  unfold Builtin.SmallTypes.ownedTupleIsFree
  refine wpAny_bind (wpAny_field he₄ rfl (x := .none) rfl (wpAny_pure ?_))
  simp only [if_true]
  refine wpAny_bind (wpAny_rule ?_)
  refine wpAny_bind (wpAny_field he₄ rfl (x := old) rfl ?_)
  refine wpAny_bind (wpAny_setField_rec he₄ (by simp) fun h₅ he₅ hs₅ => ?_)
  replace hs₅ : Heap.SameBut e h₄ h₅ := hs₅
  replace he₅ : IsEnum h₅ e it ((i : Int) + 1) x := he₅
  show wpAny _ _ (Builtin.SmallTypes.ownedTupleHandOut (.ref e) (.ref a) >>= _) _ _ ⟨h₅, g, d, tk + 1, os⟩
  refine wpAny_bind ?_
  unfold Builtin.SmallTypes.ownedTupleHandOut
  refine wpAny_bind (wpAny_setField_rec he₅ (by simp) fun h₆ he₆ hs₆ => ?_)
  replace hs₆ : Heap.SameBut e h₅ h₆ := hs₆
  replace he₆ : IsEnumOut h₆ e it ((i : Int) + 1) x a := he₆
  refine wpAny_setField_rec he₆ (by simp) fun h₇ he₇ hs₇ => ?_
  replace hs₇ : Heap.SameBut e h₆ h₇ := hs₇
  replace he₇ : IsEnumOut h₇ e it ((i : Int) + 1) x a := he₇
  refine wpAny_bind (wpAny_letGo (wpAny_pure ⟨_, rfl, wpAny_pure (hQ h₇ a tk he₇ ?_ ?_ ?_)⟩))
  · exact ((hit₄.extBut hs₅.extBut (Ne.symm hne)).extBut hs₆.extBut (Ne.symm hne)).extBut hs₇.extBut (Ne.symm hne)
  · exact ⟨_, hs₇.extBut _ _ hel (hs₆.extBut _ _ hel (hs₅.extBut _ _ hel ht₄)), rfl, _, rfl⟩
  · exact fun b o hbe hbi hb => hs₇.extBut b o hbe (hs₆.extBut b o hbe (hs₅.extBut b o hbe (kt hbe hbi hb)))
theorem en_end {e it t : Addr} {i : Nat} {items : Array Value} {old : Value} {Q : Option Value → Shared → Prop} (hh : A.handled = none)
    (he : IsEnum s.heap e it i old) (hit : s.heap.IsTupleIter it t i) (ht : s.heap.IsTuple t items) (hx : items[i]? = none)
    (hQ : ∀ h', Heap.ExtBut it s.heap h' → Q none { s with heap := h' }) : wpAny (model prog w) A (pyNext (.ref e)) Q E s := by
  have hT : s.TypeIs (.ref e) "enumerate" := ⟨_, he, rfl⟩
  unfold pyNext
  refine wpAny_bind (wpAny_attempt (wpAny_callSpecial?_slot (name := Str.ofString "__next__") hT F.slot_enumerate_next
    (wpAny_call_entry F.slot_enumerate_next hT F.entry_enumerate_next ?_ (F.args_enumerate_next_1 _))))
  show wpAny _ _ (field (.ref e) 2 >>= _) _ _ _
  refine wpAny_bind (wpAny_field he rfl (x := .ref it) rfl ?_)
  refine wpAny_bind (en_endOf hh hit ht hx fun h' x he' hx' => ?_)
  refine ea1_2 hx' fun o ho hc => ?_; try clear hx'
  refine wpAny_bind (wpAny_isInstance (T := "StopIteration") (b := true) ⟨o, ho, hc⟩ isSubtype_stop ?_)
  exact wpAny_pure (hQ _ he')
end

noncomputable def enu : Nat → List AV → List AV
  | _, [] => []
  | i, x :: r => .tup [.int (i : Int), x] :: enu (i + 1) r
theorem enu_length : ∀ (i : Nat) (l : List AV), (enu i l).length = l.length
  | _, [] => rfl
  | i, x :: r => by rw [enu, List.length_cons, List.length_cons, enu_length]
theorem enu_get : ∀ (l : List AV) (k i : Nat), (enu k l)[i]? = l[i]?.map fun x => .tup [.int ((k + i : Nat) : Int), x]
  | [], _, _ => by simp [enu]
  | x :: r, k, 0 => by simp [enu]
  | x :: r, k, i + 1 => by
    rw [enu, List.getElem?_cons_succ, enu_get r (k + 1) i, List.getElem?_cons_succ]
    rw [show k + 1 + i = k + (i + 1) by lia]
noncomputable abbrev enumO (it : Addr) : Obj := { cls := .type "enumerate", dict := none, data := .fields #[.none, .bool false, .ref it, rawInt 0, .none, .none], slots := #[] }
section
variable {c : Cx} {f : Fx} {env : Env} {ρ : Locals} {η η' : Store} {Φ : AV → Store → Prop} {Ψ : Exc} {n : Nat}
theorem Rel.alloc2 {s : Shared} (R : Rel c f env ρ η s) {h' : Heap} {n : Nat} {a b : Addr} {o o' : Obj} {ao bo : AObj} (k : ∀ b o, s.heap.get? b = some o → h'.get? b = some o) (e : s.heap.get? a = none) (e2 : s.heap.get? b = none) (ne : a ≠ b)
    (e' : h'.get? a = some o) (hc : Conc c h' o ao) (e2' : h'.get? b = some o') (hc' : Conc c h' o' bo) : Rel c f env ρ ((a, ao) :: (b, bo) :: η) { s with heap := h', toks := n } := by
  have R₁ := R.alloc (n := n) k e2 e2' hc'
  refine ea0_4 (R.fresh e) fun n1 n2 n3 n4 => ?_
  refine ⟨R₁.fr, R₁.ns, R₁.names, fun x xo hm => ?_, ?_, R₁.cells, R₁.frs⟩
  · rcases List.mem_cons.mp hm with q | hm
    · cases q; exact ⟨o, e', n1, n2, n3, hc⟩
    · exact R₁.objs x xo hm
  · rw [List.map_cons]
    refine List.nodup_cons.mpr ⟨fun hm => ?_, R₁.nd⟩
    rcases List.mem_cons.mp hm with q | hm
    · exact ne q
    · exact n4 hm
theorem Stp.alloc2 {s : Shared} {h' : Heap} {n : Nat} {a b : Addr} {ao bo : AObj} (k : ∀ b o, s.heap.get? b = some o → h'.get? b = some o) (e : s.heap.get? a = none) (e2 : s.heap.get? b = none) : Stp f env η ((a, ao) :: (b, bo) :: η) s { s with heap := h', toks := n } :=
  ⟨.heap (.of_keep k), fun b o e _ _ => k b o e, fun x h => by
    rw [List.map_cons, List.mem_cons, List.map_cons, List.mem_cons] at h
    rcases h with rfl | rfl | h
    · exact .inr e
    · exact .inr e2
    · exact .inl h, fun b o _ e => ⟨o, k b o e⟩⟩
theorem Op.enumT {l : List AV} (h : ∀ e it, Φ (.val (.ref e)) ((e, .raw (enumO it)) :: (it, .itT l) :: η)) : Op c f env (callT (.type "enumerate")) [.tup l] ρ η Φ Ψ := fun vs s E r R _ => by
  (apply RvAll.e1 r; intro _ r)
  (apply Rv.eTup r; intro ax ws t r)
  refine en_call t fun h' he hi kp => ?_
  have e1 : s.heap.get? s.heap.objs.size = none := Heap.get?_none_of_le (Nat.le_refl _)
  have e2 : s.heap.get? (s.heap.objs.size + 1) = none := Heap.get?_none_of_le (Nat.le_succ _)
  refine ⟨_, _, R.alloc2 (ao := .raw (enumO s.heap.objs.size)) (bo := .itT l) kp e2 e1 (Nat.succ_ne_self _) he ⟨rfl, fun v q => (by cases q), fun _ _ => .inl fun q => (by cases q)⟩ hi ⟨ax, ws, rfl, Tk.of_keep kp _ _ t, r.mono (.of_keep kp)⟩, .alloc2 kp e2 e1, .val _, h _ _⟩
theorem Src.enum {elts : List Expr} {k : Nat} {pos : Pos} {l : List AV} {e it : Addr} : Src c f (.Tuple elts k pos) (.val (.ref e)) ((e, .raw (enumO it)) :: (it, .itT l) :: η) η (enu 0 l) none := by
  intro s v env ρ Q E R rr hd hQ
  cases rr
  obtain ⟨oe, ee, _, _, _, rfl, _⟩ := R.objs _ _ List.mem_cons_self
  obtain ⟨oi, ei, _, _, _, t, vs, rfl, ht, r⟩ := R.objs _ _ (List.mem_cons_of_mem _ List.mem_cons_self)
  have nd := R.nd
  simp only [List.map_cons, List.nodup_cons, List.mem_cons, not_or] at nd
  have hne : e ≠ it := nd.1.1
  have ti : t ≠ e := IsTup.ne ht ee fun _ _ => .inl (by intro q; cases q)
  have tit : t ≠ it := IsTup.ne ht ei fun _ _ => .inl (by intro q; cases q)
  have hl : vs.toArray.size = l.length := by rw [List.size_toArray, r.length]
  have keep : ∀ (h h' : Heap), (∀ b o, b ≠ e → b ≠ it → h.get? b = some o → h'.get? b = some o) → IsTup h t vs.toArray → IsTup h' t vs.toArray := fun h h' k ⟨o, q, z⟩ => ⟨o, k _ o ti tit q, z⟩
  refine wpAny_pyIter_enum (it := it) (i := 0) (old := .none) ee (hQ (fun _ h => List.mem_cons_of_mem _ (List.mem_cons_of_mem _ h)) nd.2.2 e [e, it]
    (fun i h => (∃ old, IsEnum h e it (i : Nat) old) ∧ h.IsTupleIter it t i ∧ IsTup h t vs.toArray ∧ RvAll h vs l) _ s.toks ?_ ⟨⟨_, ee⟩, ⟨_, ei, rfl, rfl⟩, ht, r⟩ (fun b hb => .inr ?_) fun _ _ e => e)
  · have ob : ∀ i h, ((∃ old, IsEnum h e it (i : Nat) old) ∧ h.IsTupleIter it t i ∧ IsTup h t vs.toArray ∧ RvAll h vs l) → ∀ b ∈ [e, it], ∃ o, h.get? b = some o ∧ ∃ vs, o.data = .fields vs := fun i h st b hb => by
      refine ea0_3 st fun zq3 zq4 _ => ?_; try clear st; refine ea1_1 zq3 fun old he => ?_; clear zq3; refine ea1_3 zq4 fun oi hi _ di => ?_; clear zq4
      rcases List.mem_cons.mp hb with rfl | hb
      · exact ⟨_, he, _, rfl⟩
      · rw [List.mem_singleton.mp hb]; exact ⟨_, hi, _, di⟩
    have nin : ∀ {b}, b ∉ [e, it] ↔ b ≠ e ∧ b ≠ it := by intro b; simp
    refine ⟨fun i s Q E hi st hQ => ?_, fun s Q E st hQ => ?_, fun i s Q E st hQ => ?_, fun i h h' st k1 k2 _ => ?_, ob⟩
    · refine ea0_4 st fun zq5 hit htp hr => ?_; try clear st; refine ea1_1 zq5 fun old he => ?_; clear zq5
      rw [enu_length] at hi
      have hx : vs.toArray[i]? = some (vs[i]'(by rw [hr.length]; exact hi)) := by simp
      refine en_item he hit htp hx hne fun h' a tk ho hit' hta k => ?_
      have kx : ∀ b o, b ∉ [e, it] → s.heap.get? b = some o → h'.get? b = some o := fun b o hb q => k b o (nin.mp hb).1 (nin.mp hb).2 q
      have tk' : Tk s.heap h' := tk_but kx (ob _ _ ⟨⟨old, he⟩, hit, htp, hr⟩)
      obtain ⟨d, hd, rd⟩ := hr.get' (n := i) (v := vs[i]'(by rw [hr.length]; exact hi)) (by simp)
      have ob' : ∀ b ∈ [e, it], ∃ o, h'.get? b = some o ∧ ∃ vs, o.data = .fields vs := fun b hb => by
        refine ea1_3 hit' fun oi hi _ di => ?_; try clear hit'
        rcases List.mem_cons.mp hb with rfl | hb
        · exact ⟨_, ho, _, rfl⟩
        · rw [List.mem_singleton.mp hb]; exact ⟨_, hi, _, di⟩
      refine hQ (.ref a) (.tup [.int ((0 + i : Nat) : Int), d]) h' _ (by rw [enu_get, hd]; rfl) (.tup hta (.cons (by rw [Nat.zero_add]; exact .int _ _) (.cons (rd.mono tk') .nil))) ob' (fun s' Q E q hQ' => ?_) kx
      subst q
      refine wpAny_letOwnedTupleGo_enum ho fun h₂ he₂ hs => hQ' h₂ ⟨⟨_, by simpa using he₂⟩, hit'.extBut hs.extBut (Ne.symm hne), ?_, ?_⟩ fun b o hb q => hs.extBut b o (nin.mp hb).1 q
      · exact keep _ _ (fun b o n1 _ q => hs.extBut b o n1 q) (tk' _ _ htp)
      · exact (hr.mono tk').mono (Tk.sameBut hs ho fun _ _ => .inl (by intro q; cases q))
    · refine ea0_4 st fun zq6 hit htp hr => ?_; try clear st; refine ea1_1 zq6 fun old he => ?_; clear zq6
      rw [enu_length] at he hit
      refine en_end rfl he hit htp (by simp [hr.length]) fun h' hx => hQ h' s.toks fun b o hb q => hx b o (nin.mp hb).2 q
    · refine ea0_2 st fun zq7 _ => ?_; try clear st; refine ea1_1 zq7 fun old he => ?_; clear zq7
      exact wpAny_pyIter_enum he hQ
    · refine ea0_4 st fun zq8 zq9 htp hr => ?_; try clear st; refine ea1_1 zq8 fun old he => ?_; clear zq8; refine ea1_3 zq9 fun oi hi ci di => ?_; clear zq9
      exact ⟨⟨old, k1 _ (by simp) _ he⟩, ⟨oi, k1 _ (by simp) _ hi, ci, di⟩, k2 _ _ htp, hr.mono k2⟩
  · rcases List.mem_cons.mp hb with rfl | hb
    · exact ⟨List.mem_cons_self, nd.1.2⟩
    · rw [List.mem_singleton.mp hb]; exact ⟨List.mem_cons_of_mem _ List.mem_cons_self, nd.2.1⟩
end
section
variable {c : Cx} {f : Fx} {env : Env} {ρ : Locals} {η η' : Store} {Φ : AV → Store → Prop} {Φb : Bool → Store → Prop} {Φn : Locals → Store → Prop} {Φr : AV → Store → Prop} {Ψ : Exc} {n : Nat} {s : Shared} {E : Value → Shared → Prop}

theorem RvAll.nil_iff {h : Heap} {vs : List Value} {l : List AV} (r : RvAll h vs l) : vs = [] ↔ l = [] := by cases r <;> simp
/-- a list is pushed -/
theorem Post.newList {vs : List Value} {l : List AV} {k : Nat} (R : Rel c f env ρ η s) (r : RvAll s.heap vs l) (h : ∀ D, Φ (.val (.ref D)) ((D, .list l) :: η)) : Post c f env ρ η s Φ (.ref s.heap.objs.size) { s with heap := s.heap.push (listOf vs.toArray k), toks := s.toks } := by
  have kp : ∀ b o, s.heap.get? b = some o → (s.heap.push (listOf vs.toArray k)).get? b = some o := fun b o e => Heap.get?_push_of_some _ e
  exact ⟨_, _, R.alloc (ao := .list l) kp (Heap.get?_none_of_le (Nat.le_refl _)) (Heap.get?_push_size _ rfl) ⟨vs, _, rfl, r.mono (.of_keep kp)⟩, .alloc kp (Heap.get?_none_of_le (Nat.le_refl _)), .val _, h _⟩
theorem Op.addT {a b : List AV} (hz : a.length + b.length ≤ 1000000) (h : Φ (.tup (a ++ b)) η) : Op c f env (binT .Add) [.tup a, .tup b] ρ η Φ Ψ := fun vs s E r R _ => by
  (apply RvAll.e2 r; intro _ _ r r')
  (apply Rv.eTup r; intro x xs t r)
  cases r' with
  | tup t' r' =>
  rename_i y ys
  have e : xs.toArray ++ ys.toArray = (xs ++ ys).toArray := by simp
  obtain ⟨⟨c1, d1, da1, sl1⟩, e1, hc1, n1, hd1⟩ := id t
  obtain ⟨⟨c2, d2, da2, sl2⟩, e2, hc2, n2, hd2⟩ := id t'
  simp only at hc1 hd1 hc2 hd2
  subst hc1 hd1 hc2 hd2
  have ty1 : Shared.TypeIs s (.ref x) "tuple" := ⟨_, e1, rfl⟩
  have ty2 : Shared.TypeIs s (.ref y) "tuple" := ⟨_, e2, rfl⟩
  by_cases hx : xs = []
  · have ha : a = [] := r.nil_iff.mp hx
    refine concat_meets ty1 ty2 noFill_tuple_add seq_tuple_add PySem.F.slot_tuple_add PySem.F.entry_tuple_add (PySem.F.args_tuple_add_2 _ _) (tuple_addW0 x y xs.toArray ys.toArray n1 n2 d1 d2 sl1 sl2 (by simp [hx])) ⟨e1, e2, ?_⟩
    exact ⟨_, η, R.toks _, .toks, .tup t' r', by rw [ha] at h; exact h⟩
  · by_cases hy : ys = []
    · have hb : b = [] := r'.nil_iff.mp hy
      refine concat_meets ty1 ty2 noFill_tuple_add seq_tuple_add PySem.F.slot_tuple_add PySem.F.entry_tuple_add (PySem.F.args_tuple_add_2 _ _) (tuple_addW1 x y xs.toArray ys.toArray n1 n2 d1 d2 sl1 sl2 (by simpa using hx) (by simp [hy])) ⟨e1, e2, ?_⟩
      exact ⟨_, η, R.toks _, .toks, .tup t r, by rw [hb, List.append_nil] at h; exact h⟩
    · refine concat_meets ty1 ty2 noFill_tuple_add seq_tuple_add PySem.F.slot_tuple_add PySem.F.entry_tuple_add (PySem.F.args_tuple_add_2 _ _) (tuple_addW2 x y xs.toArray ys.toArray n1 n2 d1 d2 sl1 sl2 (by simpa using hx) (by simpa using hy) (by rw [List.size_toArray, List.size_toArray, r.length, r'.length, sizeLine_eq]; lia)) ⟨e1, e2, ?_⟩
      rw [e]
      have kp : ∀ b o, s.heap.get? b = some o → (s.heap.push { cls := Value.type "tuple", data := Data.seq (xs ++ ys).toArray }).get? b = some o := fun b o e => Heap.get?_push_of_some _ e
      exact ⟨_, η, R.keeps kp, .keep kp, .tup ⟨_, Heap.get?_push_size _ rfl, rfl, _, rfl⟩ ((r.append r').mono (.of_keep kp)), h⟩
theorem Op.addL {x y : Addr} {a b : List AV} (m1 : (x, .list a) ∈ η) (m2 : (y, .list b) ∈ η) (hz : a.length + b.length ≤ 1000000) (h : ∀ D, Φ (.val (.ref D)) ((D, .list (a ++ b)) :: η)) : Op c f env (binT .Add) [.val (.ref x), .val (.ref y)] ρ η Φ Ψ := fun vs s E r R _ => by
  (apply RvAll.e2 r; intro _ _ r r')
  first | apply Rv.eVal r | (apply Rv.eInt r; intro _) | (apply Rv.eStr r; intro _) | apply Rv.eBool r | cases r
  first | apply Rv.eVal r' | (apply Rv.eInt r'; intro _) | (apply Rv.eStr r'; intro _) | apply Rv.eBool r' | cases r'
  obtain ⟨o1, e1, _, _, _, xs, n1, rfl, r⟩ := R.objs _ _ m1
  obtain ⟨o2, e2, _, _, _, ys, n2, rfl, r'⟩ := R.objs _ _ m2
  have e : xs.toArray ++ ys.toArray = (xs ++ ys).toArray := by simp
  refine concat_meets ⟨_, e1, rfl⟩ ⟨_, e2, rfl⟩ noFill_list_add seq_list_add PySem.F.slot_list_add PySem.F.entry_list_add (PySem.F.args_list_add_2 _ _) (list_addW x y xs.toArray ys.toArray n1 n2 none none #[] #[] (by rw [List.size_toArray, List.size_toArray, r.length, r'.length, sizeLine_eq]; lia)) ⟨e1, e2, ?_⟩
  rw [e]
  exact .newList R (r.append r') h
theorem Op.tupleL {x : Addr} {a : List AV} (m1 : (x, .list a) ∈ η) (hz : a.length ≤ 1000000) (h : Φ (.tup a) η) : Op c f env (callT (.type "tuple")) [.val (.ref x)] ρ η Φ Ψ := fun vs s E r R _ => by
  (apply RvAll.e1 r; intro _ r)
  first | apply Rv.eVal r | (apply Rv.eInt r; intro _) | (apply Rv.eStr r; intro _) | apply Rv.eBool r | cases r
  obtain ⟨o1, e1, _, _, _, xs, n1, rfl, r⟩ := R.objs _ _ m1
  refine call_tuple_list ⟨_, e1, rfl, n1, rfl⟩ (fun h' hk => ?_) (by rw [List.size_toArray, r.length, sizeLine_eq]; lia)
  have kp : ∀ b o, s.heap.get? b = some o → (h'.push { cls := .type "tuple", data := .seq xs.toArray }).get? b = some o := fun b o e => Heap.get?_push_of_some _ (hk b o e)
  exact ⟨_, η, R.keeps kp, .keep kp, .tup ⟨_, Heap.get?_push_size _ rfl, rfl, _, rfl⟩ (r.mono (.of_keep kp)), h⟩
theorem Op.listT {a : List AV} (hz : a.length ≤ 1000000) (h : ∀ D, Φ (.val (.ref D)) ((D, .list a) :: η)) : Op c f env (callT (.type "list")) [.tup a] ρ η Φ Ψ := fun vs s E r R _ => by
  (apply RvAll.e1 r; intro _ r)
  (apply Rv.eTup r; intro _ _ t r)
  refine ea1_3 t fun o e hc zq1 => ?_; try clear t; refine ea1_1 zq1 fun k hd => ?_; clear zq1
  refine call_list_seq _ (.inr rfl) e hc hd (fun h' c' hk he => ?_) (by rw [List.size_toArray, r.length, sizeLine_eq]; lia)
  exact ⟨_, _, R.alloc (ao := .list a) hk (Heap.get?_none_of_le (Nat.le_refl _)) he ⟨_, c', rfl, r.mono (.of_keep hk)⟩, .alloc hk (Heap.get?_none_of_le (Nat.le_refl _)), .val _, h _⟩

noncomputable def AV.isTup : AV → Bool
  | .tup _ => true
  | _ => false
theorem Op.isTup {a : AV} (p : a.pure = true) (hp : ∀ b, a ≠ .bool b) (hp2 : ∀ b, a ≠ .str b) (h : Φ (.bool a.isTup) η) : Op c f env (callT (.builtin "isinstance")) [a, .val (.type "tuple")] ρ η Φ Ψ := fun vs s E r R _ => by
  (apply RvAll.e2 r; intro _ _ r r')
  first | apply Rv.eVal r' | (apply Rv.eInt r'; intro _) | (apply Rv.eStr r'; intro _) | apply Rv.eBool r' | cases r'
  cases r with
  | none => exact IsiPair.NoneType_tuple (.same R (.bool _) h)
  | bool b => exact absurd rfl (hp b)
  | int i t => exact IsiPair.int_tuple (.same R (.bool _) h)
  | str x t => exact absurd rfl (hp2 x)
  | tup t r => refine ea1_3 t fun o e hc _ => ?_; try clear t; exact IsiPair.tuple_tuple e hc (.here R (.bool _) h)
  | val v => cases p

theorem Op.range1 {k : Int} (h : ∀ r t u v, Φ (.val (.ref r)) ((r, .raw (rangeO 0 k t u v)) :: η)) : Op c f env (callT (.type "range")) [.int k] ρ η Φ Ψ := fun vs s E r R _ => by
  (apply RvAll.e1 r; intro _ r)
  first | apply Rv.eVal r | (apply Rv.eInt r; intro _) | (apply Rv.eStr r; intro _) | apply Rv.eBool r | cases r
  rename_i tok
  refine call_range_1 ?_
  have kp : ∀ b o, s.heap.get? b = some o → (s.heap.push (rangeO 0 k s.toks tok (s.toks + 1))).get? b = some o := fun b o e => Heap.get?_push_of_some _ e
  exact ⟨_, _, R.alloc (ao := .raw (rangeO 0 k s.toks tok (s.toks + 1))) kp (Heap.get?_none_of_le (Nat.le_refl _)) (Heap.get?_push_size _ rfl) ⟨rfl, fun v q => (by cases q), fun vs n => .inl fun q => (by cases q)⟩, .alloc kp (Heap.get?_none_of_le (Nat.le_refl _)), .val _, h _ _ _ _⟩
theorem Op.range2 {a k : Int} (h : ∀ r t u v, Φ (.val (.ref r)) ((r, .raw (rangeO a k t u v)) :: η)) : Op c f env (callT (.type "range")) [.int a, .int k] ρ η Φ Ψ := fun vs s E r R _ => by
  (apply RvAll.e2 r; intro _ _ r r')
  first | apply Rv.eVal r | (apply Rv.eInt r; intro _) | (apply Rv.eStr r; intro _) | apply Rv.eBool r | cases r
  first | apply Rv.eVal r' | (apply Rv.eInt r'; intro _) | (apply Rv.eStr r'; intro _) | apply Rv.eBool r' | cases r'
  rename_i tok tok'
  refine call_range_2 ?_
  have kp : ∀ b o, s.heap.get? b = some o → (s.heap.push (rangeO a k tok tok' s.toks)).get? b = some o := fun b o e => Heap.get?_push_of_some _ e
  exact ⟨_, _, R.alloc (ao := .raw (rangeO a k tok tok' s.toks)) kp (Heap.get?_none_of_le (Nat.le_refl _)) (Heap.get?_push_size _ rfl) ⟨rfl, fun v q => (by cases q), fun vs n => .inl fun q => (by cases q)⟩, .alloc kp (Heap.get?_none_of_le (Nat.le_refl _)), .val _, h _ _ _ _⟩
theorem Op.intI {k : Int} (h : Φ (.int k) η) : Op c f env (callT (.type "int")) [.int k] ρ η Φ Ψ := fun vs s E r R _ => by
  (apply RvAll.e1 r; intro _ r)
  first | apply Rv.eVal r | (apply Rv.eInt r; intro _) | (apply Rv.eStr r; intro _) | apply Rv.eBool r | cases r
  exact call_int_int (.here R (.int _ _) h)

/-! ### lists that change -/
theorem Op.append {D : Addr} {l : List AV} {a : AV} (U : Up D (.list l) (.list (l ++ [a])) η η') (hz : l.length ≤ 1000000) (h : Φ .none η') : Op c f env (callT (.builtin "list.append")) [.val (.ref D), a] ρ η Φ Ψ := fun vs s E r R _ => by
  (apply RvAll.e2 r; intro _ _ r r')
  first | apply Rv.eVal r | (apply Rv.eInt r; intro _) | (apply Rv.eStr r; intro _) | apply Rv.eBool r | cases r
  obtain ⟨o, e, _, _, _, xs, k, rfl, rr⟩ := R.objs _ _ U.mem.1
  refine append_at e (fun h' hs he => ?_) (by rw [List.size_toArray, rr.length, sizeLine_eq]; lia)
  have tk := R.tkUp U hs
  rw [List.push_toArray] at he
  exact ⟨.none, η', R.up (n := s.toks) U hs he ⟨_, _, rfl, (rr.mono tk).append (.cons (r'.mono tk) .nil)⟩, .up R U hs he, .none, h⟩
theorem mapSeq_app (its ys : Array Value) (n : Nat) : ∃ n', Obj.mapSeq (fun x => x ++ ys) { cls := .type "list", dict := none, data := .seq its n, slots := #[] } = { cls := .type "list", dict := none, data := .seq (its ++ ys) n', slots := #[] } := by
  refine ea1_1 (Obj.data_mapSeq (o := { cls := .type "list", dict := none, data := .seq its n, slots := #[] }) rfl (fun x => x ++ ys)) fun n' h => ?_
  refine ⟨n', ?_⟩
  unfold Obj.mapSeq at h ⊢
  cases h
  rfl
theorem ext_w (T : String) (hT : T = "list" ∨ T = "tuple") (l : Addr) (items : Array Value) (n : Nat) (b : Addr) (items2 : Array Value) (n2 : Nat) (dd2 : Option Addr) (sl2 : Array (Option Value)) (hs0 : ¬(!items.isEmpty && Builtin.List.listTooLong (items.size + items2.size)) = true) (hs1 : items.size ≤ sizeLine) (hs2 : items.size + items2.size ≤ sizeLine + 1) :
    Meets (Builtin.«list.extend» ⟨[.ref l, .ref b], []⟩) (fun _ R s => s.heap.get? l = some { cls := .type "list", dict := none, data := .seq items n, slots := #[] } ∧ s.heap.get? b = some { cls := .type T, dict := dd2, data := .seq items2 n2, slots := sl2 } ∧ R (.ok (.ret Value.none)) { s with heap := s.heap.update l (Obj.mapSeq fun x => x ++ items2), toks := s.toks }) :=
  .of_wp fun prog w A R s h => by
    obtain ⟨hp, g, d, tk, os⟩ := s; obtain ⟨hl, hb, h⟩ := h; have f1 := AutoSeq1.idx_int; have f2 := AutoSeq1.sub_tuple_tuple; have f3 := AutoSeq1.sub_list_list; have f4 := AutoSeq1.sub_tuple_list; have f5 := AutoSeq1.sub_list_tuple
    have hz' : (items ++ items2).size ≤ sizeLine + 1 := by rw [Array.size_append]; exact hs2
    rcases hT with rfl | rfl
    · wp_walk using (wpAny_updateSeq hl rfl (hz := hs1) (_hz' := hz')), AutoSeq1.wpAny_loadPart' hl, AutoSeq1.wpAny_loadPart' hb; exact ⟨_, rfl, h⟩
    · wp_walk using (wpAny_updateSeq hl rfl (hz := hs1) (_hz' := hz')), AutoSeq1.wpAny_loadPart' hl, AutoSeq1.wpAny_loadPart' hb; exact ⟨_, rfl, h⟩
theorem ext_call {T : String} (hT : T = "list" ∨ T = "tuple") {l b : Addr} {items items2 : Array Value} {n n2 : Nat} {dd2 : Option Addr} {sl2 : Array (Option Value)} {A : Around} {prog : Program} {w : World} {Q : Value → Shared → Prop} (hz : items.size + items2.size ≤ 1000000)
    (hl : s.heap.get? l = some { cls := .type "list", dict := none, data := .seq items n, slots := #[] }) (hb : s.heap.get? b = some { cls := .type T, dict := dd2, data := .seq items2 n2, slots := sl2 })
    (h : ∀ h' n', Heap.SameBut l s.heap h' → h'.get? l = some { cls := .type "list", dict := none, data := .seq (items ++ items2) n', slots := #[] } → Q .none { s with heap := h' }) : wpAny (model prog w) A (call (.builtin "list.extend") [.ref l, .ref b]) Q E s := by
  have hsl : items.size + items2.size ≤ sizeLine := by rw [sizeLine_eq]; lia
  refine call_meets F.slot_list_extend ⟨_, hl, rfl⟩ F.entry_list_extend (F.args_list_extend_2 _ _) (ext_w T hT l items n b items2 n2 dd2 sl2 ?_ (by lia) (by lia)) ⟨hl, hb, ?_⟩
  · rw [Builtin.List.listTooLong, decide_eq_false (Nat.not_lt.mpr hsl), Bool.and_false]; exact Bool.false_ne_true
  · refine ea1_1 (mapSeq_app items items2 n) fun n' e => ?_
    refine h _ n' (Heap.SameBut.update ..) ?_
    rw [Heap.get?_update_self _ hl (by rw [e]; rfl), e]
theorem Op.extendT {D : Addr} {l a : List AV} (U : Up D (.list l) (.list (l ++ a)) η η') (hz : l.length + a.length ≤ 1000000) (h : Φ .none η') : Op c f env (callT (.builtin "list.extend")) [.val (.ref D), .tup a] ρ η Φ Ψ := fun vs s E r R _ => by
  (apply RvAll.e2 r; intro _ _ r r')
  first | apply Rv.eVal r | (apply Rv.eInt r; intro _) | (apply Rv.eStr r; intro _) | apply Rv.eBool r | cases r
  (apply Rv.eTup r'; intro ax ys t r)
  obtain ⟨o, e, _, _, _, xs, k, rfl, rr⟩ := R.objs _ _ U.mem.1
  obtain ⟨⟨c2, d2, da2, sl2⟩, e2, hc2, n2, hd2⟩ := id t
  simp only at hc2 hd2
  subst hc2 hd2
  refine ext_call (.inr rfl) (by rw [List.size_toArray, List.size_toArray, rr.length, r.length]; exact hz) e e2 fun h' n' hs he => ?_
  have tk := R.tkUp U hs
  have e' : xs.toArray ++ ys.toArray = (xs ++ ys).toArray := by simp
  rw [e'] at he
  exact ⟨.none, η', R.up (n := s.toks) U hs he ⟨_, _, rfl, (rr.mono tk).append (r.mono tk)⟩, .up R U hs he, .none, h⟩
theorem Op.extendL {D x : Addr} {l a : List AV} (U : Up D (.list l) (.list (l ++ a)) η η') (m : (x, .list a) ∈ η) (hz : l.length + a.length ≤ 1000000) (h : Φ .none η') : Op c f env (callT (.builtin "list.extend")) [.val (.ref D), .val (.ref x)] ρ η Φ Ψ := fun vs s E r R _ => by
  (apply RvAll.e2 r; intro _ _ r r')
  first | apply Rv.eVal r | (apply Rv.eInt r; intro _) | (apply Rv.eStr r; intro _) | apply Rv.eBool r | cases r
  first | apply Rv.eVal r' | (apply Rv.eInt r'; intro _) | (apply Rv.eStr r'; intro _) | apply Rv.eBool r' | cases r'
  obtain ⟨o, e, _, _, _, xs, k, rfl, rr⟩ := R.objs _ _ U.mem.1
  obtain ⟨o2, e2, _, _, _, ys, k2, rfl, r⟩ := R.objs _ _ m
  refine ext_call (.inl rfl) (by rw [List.size_toArray, List.size_toArray, rr.length, r.length]; exact hz) e e2 fun h' n' hs he => ?_
  have tk := R.tkUp U hs
  have e' : xs.toArray ++ ys.toArray = (xs ++ ys).toArray := by simp
  rw [e'] at he
  exact ⟨.none, η', R.up (n := s.toks) U hs he ⟨_, _, rfl, (rr.mono tk).append (r.mono tk)⟩, .up R U hs he, .none, h⟩
/-- a character of a text -/
theorem Op.itemS {value slice : Expr} {x : Str} {k : Int} {ch : Nat} (h0 : 0 ≤ k) (hk : x.cps[k.toNat]? = some ch) (hz : x.length ≤ 1000000) (h : Φ (.str ⟨#[ch]⟩) η) (hs : Plain slice) : Op c f env (subT value slice) [.str x, .int k] ρ η Φ Ψ := fun vs s E r R _ => by
  (apply RvAll.e2 r; intro _ _ r r')
  first | apply Rv.eVal r | (apply Rv.eInt r; intro _) | (apply Rv.eStr r; intro _) | apply Rv.eBool r | cases r
  first | apply Rv.eVal r' | (apply Rv.eInt r'; intro _) | (apply Rv.eStr r'; intro _) | apply Rv.eBool r' | cases r'
  rename_i tok tok'
  refine ea1_1 (hs (.str x tok) (.int k tok')) fun ops ho => ?_
  have hlt : k.toNat < x.cps.size := (Array.getElem?_eq_some_iff.mp hk).1
  have hl : x.length = x.cps.size := rfl
  refine tail_any (typeIs_str _ _ _) F.slot_str_getitem.lookup (PyProof.Rows.getItem_str (c := ch) (by simp; lia) ?_ (.same R (.str _ _) h)) ho
  have h1 : ¬ k < 0 := by lia
  unfold seqIndex?
  simp only [h1, if_false]
  rw [if_pos (by simp; lia)]
  exact hk
end
section
variable {c : Cx} {f : Fx} {env : Env} {ρ : Locals} {η η' : Store} {Φ : AV → Store → Prop} {Φb : Bool → Store → Prop} {Φn : Locals → Store → Prop} {Φr : AV → Store → Prop} {Ψ : Exc} {n : Nat} {s : Shared} {E : Value → Shared → Prop}
theorem FnC.enter {a : Addr} {args : List AV} {name qual : Str} {params : Arguments} {body : List Stmt} {scope : Scope} {dV kV doc pm cdv ct oc : Value} {an od : Option Addr} {osl : Array (Option Value)}
    (ho : c.K.lookup a = some ⟨oc, od, .func (fnOf name qual params body scope dV kV doc pm an cdv ct), osl⟩) (hcd : codeIn c.K cdv qual = true)
    (ps : List Str) (hl : args.length = ps.length) (hbind : ∀ s vs, vs.length = ps.length → BindsTo s (fnOf name qual params body scope dV kV doc pm an cdv ct) ⟨vs, []⟩ (ps.zip vs))
    (hps : ps.Nodup) (hkind : (ps.all fun y => scope.names.lookup y == some .local || scope.names.lookup y == some .cell) = true)
    (hco : scope.isCoroutine = false) (hgen : scope.isGenerator = false) (hk : scope.kind = .function)
    (hb : ∀ g, FOk c (Fx.of qual scope a cdv g) n → Exs c (Fx.of qual scope a cdv g) (Fx.env (Fx.of qual scope a cdv g)) body (ps.zip args) η (fun _ η' => Φ .none η') Φ Ψ) : FnC c a (n + 1) args η Φ Ψ :=
  FnC.intro ho hcd ps hl hbind hps hkind hco hgen hk fun f' h1 h2 h3 h4 ok => by
    obtain ⟨dp, un, gd, cn, cs, L, a', ccd, outer, h₀, base, A₀⟩ := f'
    simp only at h1 h2 h3 h4
    subst h1 h2 h3 h4
    exact hb ⟨dp, un, gd, L, outer, h₀, base, A₀⟩ ok
/-- the rest of the block under one name -/
theorem Exs.consL {st : Stmt} {rest : List Stmt} {Φr : AV → Store → Prop} (h : let Φs := fun ρ₁ η₁ => Exs c f env rest ρ₁ η₁ Φn Φr Ψ; Ex c f env st ρ η Φs Φr Ψ) : Exs c f env (st :: rest) ρ η Φn Φr Ψ := Exs.cons h
theorem Dep.none {η : Store} : Dep Option.none η := fun _ h => nomatch h
theorem Dep.some {η : Store} {p : Addr × AObj} (h : p ∈ η) : Dep (Option.some p) η := fun q e => by cases e; exact h
theorem lk0 {P : Str → AV → Prop} : ∀ y av, ([] : Locals).lookup y = some av → P y av := fun _ _ h => nomatch h
theorem lk1 {P : Str → AV → Prop} {r : Locals} {x : Str} {a : AV} (h : P x a) (k : ∀ y av, r.lookup y = some av → P y av) : ∀ y av, ((x, a) :: r).lookup y = some av → P y av := fun y av e => by
  rw [List.lookup_cons] at e
  by_cases q : y = x
  · subst q; simp only [beq_self_eq_true, Option.some.injEq] at e; subst e; exact h
  · rw [show (y == x) = false from beq_eq_false_iff_ne.mpr q] at e; exact k y av e
/-- each item gives one value, the store as it was -/
theorem CompS.map {cenv : Env} {target elt : Expr} {dep : Option (Addr × AObj)} {Φs : List AV → Store → Prop} (g : AV → AV) (hd : Dep dep η) {items acc : List AV} (hs : ∀ d ∈ items, ∃ prs, Asg c f cenv target d prs ∧ Ev c f cenv elt (prs ++ ρ) η (fun a η' => a = g d ∧ η' = η) Ψ) (h : Φs (acc ++ items.map g) η) :
    CompS c f cenv target [] elt ρ dep Φs Ψ items acc η := by
  induction items generalizing acc with
  | nil => simpa [CompS] using h
  | cons d ds ih =>
    refine ea1_2 (hs d List.mem_cons_self) fun prs ha he => ?_
    refine ⟨prs, ha, he.mono fun a η' zz => ?_⟩
    refine ea0_2 zz fun yq1 yq2 => ?_; try clear zz; subst yq1; subst yq2
    exact ⟨hd, ih (fun d' h' => hs d' (List.mem_cons_of_mem _ h')) (by simpa using h)⟩
theorem Tt.mono {e : Expr} {Φ' : Bool → Store → Prop} (h : Tt c f env e ρ η Φb Ψ) (k : ∀ a η, Φb a η → Φ' a η) : Tt c f env e ρ η Φ' Ψ := fun s E R hE =>
  wpAny_mono (h s E R hE) (fun _ _ ⟨η', a, b, e⟩ => ⟨η', a, b, k _ _ e⟩) fun _ _ x => x
theorem CompS.filter {cenv : Env} {target elt tst : Expr} {dep : Option (Addr × AObj)} {Φs : List AV → Store → Prop} (t : AV → Bool) (g : AV → AV) (hd : Dep dep η) {items acc : List AV} (hs : ∀ d ∈ items, ∃ prs, Asg c f cenv target d prs ∧ Tt c f cenv tst (prs ++ ρ) η (fun b η' => b = t d ∧ η' = η) Ψ ∧ (t d = true → Ev c f cenv elt (prs ++ ρ) η (fun a η' => a = g d ∧ η' = η) Ψ)) (h : Φs (acc ++ (items.filter t).map g) η) :
    CompS c f cenv target [tst] elt ρ dep Φs Ψ items acc η := by
  induction items generalizing acc with
  | nil => simpa [CompS] using h
  | cons d ds ih =>
    refine ea1_3 (hs d List.mem_cons_self) fun prs ha ht he => ?_
    refine ⟨prs, ha, ht.mono fun b η' zz => ?_⟩
    refine ea0_2 zz fun yq3 yq4 => ?_; try clear zz; subst yq3; subst yq4
    refine ⟨hd, fun q => (he q).mono fun a η' ⟨e1, e2⟩ => ?_, fun q => ?_⟩
    · subst e1 e2
      exact ⟨hd, ih (fun d' h' => hs d' (List.mem_cons_of_mem _ h')) (by rw [List.filter_cons_of_pos q] at h; simpa using h)⟩
    · exact ih (fun d' h' => hs d' (List.mem_cons_of_mem _ h')) (by rw [List.filter_cons_of_neg (by simp [q])] at h; exact h)
theorem Src.range0 {tg : Expr} {r : Addr} {n : Nat} {t u v : Tok} (h3 : n ≤ 1000000) : Src c f tg (.val (.ref r)) η η ((_root_.List.range n).map fun (i : Nat) => AV.int (i : Int)) (Option.some (r, .raw (rangeO 0 (n : Int) t u v))) := by
  have := Src.range (c := c) (f := f) (tg := tg) (r := r) (a := 0) (n := n) (t := t) (u := u) (v := v) (η := η) (by decide) (by decide) h3
  simpa only [Int.zero_add] using this
theorem Src.range1 {tg : Expr} {r : Addr} {n : Nat} {t u v : Tok} (h3 : n ≤ 1000000) : Src c f tg (.val (.ref r)) η η ((_root_.List.range n).map fun (i : Nat) => AV.int (1 + (i : Int))) (Option.some (r, .raw (rangeO 1 (1 + (n : Int)) t u v))) := Src.range (by decide) (by decide) h3
theorem len1 {α : Type} {l : List α} (h : l.length = 1) : ∃ a, l = [a] := by match l, h with | [a], _ => exact ⟨a, rfl⟩
theorem lenS {α : Type} {l : List α} {n : Nat} (h : l.length = n + 1) : ∃ a r, l = a :: r ∧ r.length = n := by
  cases l with
  | nil => cases h
  | cons a r => exact ⟨a, r, rfl, Nat.succ.inj h⟩
theorem len2 {α : Type} {l : List α} (h : l.length = 2) : ∃ a b, l = [a, b] := ea2_2 (lenS h) fun a r e h => ea1_1 (len1 h) fun b k => ⟨a, b, by rw [e, k]⟩
theorem len3 {α : Type} {l : List α} (h : l.length = 3) : ∃ a b d, l = [a, b, d] := ea2_2 (lenS h) fun a r e h => ea2_1 (len2 h) fun b d k => ⟨a, b, d, by rw [e, k]⟩
theorem len4 {α : Type} {l : List α} (h : l.length = 4) : ∃ a b d e, l = [a, b, d, e] := ea2_2 (lenS h) fun a r e h => ea3_1 (len3 h) fun b d g k => ⟨a, b, d, g, by rw [e, k]⟩
theorem len5 {α : Type} {l : List α} (h : l.length = 5) : ∃ a b d e g, l = [a, b, d, e, g] := ea2_2 (lenS h) fun a r e h => ea4_1 (len4 h) fun b d g i k => ⟨a, b, d, g, i, by rw [e, k]⟩
theorem len1.on {α : Type} {l : List α} (h : l.length = 1) {P : List α → Prop} (k : ∀ a, P [a]) : P l := ea1_1 (len1 h) fun a e => e ▸ k a
theorem len2.on {α : Type} {l : List α} (h : l.length = 2) {P : List α → Prop} (k : ∀ a b, P [a, b]) : P l := ea2_1 (len2 h) fun a b e => e ▸ k a b
theorem len3.on {α : Type} {l : List α} (h : l.length = 3) {P : List α → Prop} (k : ∀ a b d, P [a, b, d]) : P l := ea3_1 (len3 h) fun a b d e => e ▸ k a b d
theorem len4.on {α : Type} {l : List α} (h : l.length = 4) {P : List α → Prop} (k : ∀ a b d g, P [a, b, d, g]) : P l := ea4_1 (len4 h) fun a b d g e => e ▸ k a b d g
theorem len5.on {α : Type} {l : List α} (h : l.length = 5) {P : List α → Prop} (k : ∀ a b d g i, P [a, b, d, g, i]) : P l := ea5_1 (len5 h) fun a b d g i e => e ▸ k a b d g i
/-- what was made on the way is told of no more -/
theorem FnC.less {a : Addr} {args : List AV} {Φ' : AV → Store → Prop} (h : FnC c a n args η Φ Ψ) (k : (η.map (·.1)).Nodup → ∀ v η', Φ v η' → ∃ η₂, (∀ p ∈ η₂, p ∈ η') ∧ (η₂.map (·.1)).Nodup ∧ Φ' v η₂) : FnC c a n args η Φ' Ψ := fun f env ρ vs s E ok R r hE => by
  refine codeAny_mono (h f env ρ vs s E ok R r hE) fun r s' z => ?_
  cases r with
  | error e => exact z
  | ok fl =>
    cases fl with
    | ret v =>
      obtain ⟨av, η', a, b, d, e⟩ := z
      refine ea1_3 (k R.nd av η' e) fun η₂ k1 k2 k3 => ?_
      exact ⟨av, η₂, a.fewer (fun _ _ h => h) k1 k2, b.fewer k1, d, k3⟩
    | _ => exact z
theorem FnC.nd {a : Addr} {args : List AV} (h : (η.map (·.1)).Nodup → FnC c a n args η Φ Ψ) : FnC c a n args η Φ Ψ := fun f env ρ vs s E ok R r hE => h R.nd f env ρ vs s E ok R r hE
theorem Store.once {a : Addr} {o o' : AObj} {η : Store} : (η.map (·.1)).Nodup → (a, o) ∈ η → (a, o') ∈ η → o = o' := by
  induction η with
  | nil => exact fun _ h => nomatch h
  | cons p r ih =>
    intro nd h h'
    rw [List.map_cons, List.nodup_cons] at nd
    rcases List.mem_cons.mp h with q | h1
    · rcases List.mem_cons.mp h' with q' | h2
      · exact (Prod.mk.inj (q.trans q'.symm)).2
      · rw [← q] at nd; exact absurd (List.mem_map_of_mem (f := (·.1)) h2) nd.1
    · rcases List.mem_cons.mp h' with q' | h2
      · rw [← q'] at nd; exact absurd (List.mem_map_of_mem (f := (·.1)) h1) nd.1
      · exact ih nd.2 h1 h2
/-- the store with another object there -/
noncomputable def put (a : Addr) (o : AObj) (η : Store) : Store := η.map fun p => if p.1 = a then (a, o) else p
theorem put_keys (a : Addr) (o : AObj) (η : Store) : (put a o η).map (·.1) = η.map (·.1) := by
  unfold put
  rw [List.map_map]
  apply List.map_congr_left
  intro p _
  simp only [Function.comp_apply]
  split <;> simp_all
theorem put_off {a : Addr} {o : AObj} {η : Store} (h : a ∉ η.map (·.1)) : put a o η = η := by
  unfold put
  rw [List.map_congr_left (g := id), List.map_id]
  intro p hp
  have : p.1 ≠ a := fun q => h (by rw [← q]; exact List.mem_map_of_mem (f := (·.1)) hp)
  simp [this]
theorem put_mem {a : Addr} {o o' : AObj} {η : Store} (h : (a, o) ∈ η) : (a, o') ∈ put a o' η := by
  have := List.mem_map_of_mem (f := fun p => if p.1 = a then (a, o') else p) h
  simp only [if_true] at this
  exact this
theorem put_other {a : Addr} {o' : AObj} {η : Store} {p : Addr × AObj} (h : p ∈ η) (ne : p.1 ≠ a) : p ∈ put a o' η := by
  have := List.mem_map_of_mem (f := fun p => if p.1 = a then (a, o') else p) h
  simp only [ne, if_false] at this
  exact this
theorem put_put (a : Addr) (o o' : AObj) (η : Store) : put a o' (put a o η) = put a o' η := by
  unfold put
  rw [List.map_map]
  apply List.map_congr_left
  intro p _
  simp only [Function.comp_apply]
  split <;> simp_all
theorem put_cons {a b : Addr} {o x : AObj} {η : Store} (ne : b ≠ a) : put a o ((b, x) :: η) = (b, x) :: put a o η := by simp [put, ne]
theorem put_head {a : Addr} {o x : AObj} {η : Store} (h : a ∉ η.map (·.1)) : put a o ((a, x) :: η) = (a, o) :: η := by
  have := put_off (o := o) h
  unfold put at this ⊢
  rw [List.map_cons, this]; simp
theorem Up.put {a : Addr} {o o' : AObj} : ∀ {η : Store}, (η.map (·.1)).Nodup → (a, o) ∈ η → Up a o o' η (Mine.put a o' η)
  | [], _, h => nomatch h
  | (b, x) :: r, nd, h => by
    rw [List.map_cons, List.nodup_cons] at nd
    by_cases q : b = a
    · subst q
      rcases List.mem_cons.mp h with e | h1
      · cases e; rw [put_head nd.1]; exact .head
      · exact absurd (List.mem_map_of_mem (f := (·.1)) h1) nd.1
    · rw [put_cons q]
      rcases List.mem_cons.mp h with e | h1
      · cases e; exact absurd rfl q
      · exact .tail (Up.put nd.2 h1)
theorem put_self {a : Addr} {o : AObj} {η : Store} (nd : (η.map (·.1)).Nodup) (h : (a, o) ∈ η) : put a o η = η := by
  unfold put
  rw [List.map_congr_left (g := id), List.map_id]
  intro p hp
  obtain ⟨b, x⟩ := p
  split
  · rename_i q
    simp only at q; subst q
    rw [Store.once nd h hp]; rfl
  · rfl
theorem FnC.pnd {a : Addr} {args : List AV} (h : FnC c a n args η (fun v η' => (η'.map (·.1)).Nodup → Φ v η') Ψ) : FnC c a n args η Φ Ψ := fun f env ρ vs s E ok R r hE => by
  refine codeAny_mono (h f env ρ vs s E ok R r hE) fun r s' z => ?_
  cases r with
  | error e => exact z
  | ok fl =>
    cases fl with
    | ret v => obtain ⟨av, η', a, b, d, e⟩ := z; exact ⟨av, η', a, b, d, e a.nd⟩
    | _ => exact z
/-- one new object is told of, and what was there before -/
theorem FnC.one {a : Addr} {args : List AV} {ao : AObj} (h : FnC c a n args η (fun v η' => (η'.map (·.1)).Nodup → ∃ D, v = .val (.ref D) ∧ (D, ao) ∈ η' ∧ (∀ p ∈ η, p ∈ η') ∧ D ∉ η.map (·.1)) Ψ) : FnC c a n args η (fun v η' => ∃ D, v = .val (.ref D) ∧ η' = (D, ao) :: η ∧ D ∉ η.map (·.1)) Ψ :=
  FnC.less (.pnd h) fun nd v η' ⟨D, e, m, k, nD⟩ => ⟨(D, ao) :: η, fun p hp => (List.mem_cons.mp hp).elim (fun q => q ▸ m) (k p), by rw [List.map_cons]; exact List.nodup_cons.mpr ⟨nD, nd⟩, D, e, rfl, nD⟩
theorem FnC.same {a : Addr} {args : List AV} {P : AV → Prop} (h : FnC c a n args η (fun v η' => P v ∧ ∀ p ∈ η, p ∈ η') Ψ) : FnC c a n args η (fun v η' => P v ∧ η' = η) Ψ :=
  h.less fun nd v η' ⟨p, q⟩ => ⟨η, q, nd, p, rfl⟩
theorem Up.of {a : Addr} {o : AObj} (o' : AObj) : ∀ {η : Store}, (a, o) ∈ η → ∃ η', Up a o o' η η'
  | [], h => nomatch h
  | (b, x) :: r, h => by
    by_cases q : (b, x) = (a, o)
    · cases q; exact ⟨_, .head⟩
    · rcases List.mem_cons.mp h with h | h
      · exact absurd h.symm q
      · refine ea1_1 (Up.of o' h) fun η' u => ?_; exact ⟨_, .tail u⟩
theorem Up.other {a b : Addr} {o o' x : AObj} {r r' : Store} (u : Up a o o' r r') (nd : (r.map (·.1)).Nodup) (h : (b, x) ∈ r) (ne : b ≠ a) : (b, x) ∈ r' := by
  induction u with
  | head =>
    rcases List.mem_cons.mp h with q | h
    · cases q; exact absurd rfl ne
    · exact List.mem_cons_of_mem _ h
  | tail u ih =>
    rw [List.map_cons, List.nodup_cons] at nd
    rcases List.mem_cons.mp h with q | h
    · rw [q]; exact List.mem_cons_self
    · exact List.mem_cons_of_mem _ (ih nd.2 h)
theorem Up.nodup {a : Addr} {o o' : AObj} {r r' : Store} (u : Up a o o' r r') (nd : (r.map (·.1)).Nodup) : (r'.map (·.1)).Nodup := by rw [u.keys]; exact nd
end
section
variable {c : Cx} {f : Fx} {env : Env} {ρ : Locals} {η η' : Store} {Φ : AV → Store → Prop} {Φb : Bool → Store → Prop} {Φn : Locals → Store → Prop} {Φr : AV → Store → Prop} {Ψ : Exc} {n : Nat} {s : Shared} {E : Value → Shared → Prop}
theorem RvKvs.get {h : Heap} {x : Str} {kvs : List (Str × Value)} {l : List (Str × AV)} {av : AV} (F : RvKvs h kvs l) : l.lookup x = some av → ∃ v, valueAt kvs x = some v ∧ Rv h v av := by
    refine RvKvs.ind (P := fun kvs l => l.lookup x = some av → ∃ v, valueAt kvs x = some v ∧ Rv h v av) (fun e => nomatch e) (fun y v r d r' rv q ih z => ?_) F
    rw [List.lookup_cons] at z
    unfold valueAt
    rw [List.find?_cons]
    by_cases w : x = y
    · subst w
      simp only [beq_self_eq_true, Option.some.injEq] at z
      subst z
      exact ⟨v, by simp, rv⟩
    · rw [show (x == y) = false from beq_eq_false_iff_ne.mpr w] at z
      refine ea1_2 (ih z) fun u g ru => ?_
      refine ⟨u, ?_, ru⟩
      rw [show decide ((y, v).1 = x) = false from decide_eq_false (Ne.symm w)]
      exact g
theorem RvKvs.getNone {h : Heap} {x : Str} {kvs : List (Str × Value)} {l : List (Str × AV)} (F : RvKvs h kvs l) : l.lookup x = none → valueAt kvs x = none := by
    refine RvKvs.ind (P := fun kvs l => l.lookup x = none → valueAt kvs x = none) (fun _ => rfl) (fun y v r d r' rv q ih z => ?_) F
    rw [List.lookup_cons] at z
    unfold valueAt
    rw [List.find?_cons]
    by_cases w : x = y
    · subst w; simp at z
    · rw [show (x == y) = false from beq_eq_false_iff_ne.mpr w] at z
      rw [show decide ((y, v).1 = x) = false from decide_eq_false (Ne.symm w)]
      exact ih z
theorem RvKvs.keys {h : Heap} {kvs : List (Str × Value)} {l : List (Str × AV)} (F : RvKvs h kvs l) : kvs.map (·.1) = l.map (·.1) :=
  RvKvs.ind (P := fun kvs l => kvs.map (·.1) = l.map (·.1)) rfl (fun x _ _ _ _ _ _ i => congrArg (x :: ·) i) F
theorem RvKvs.snoc {h : Heap} {x : Str} {v : Value} {av : AV} (rv : Rv h v av) {kvs : List (Str × Value)} {l : List (Str × AV)} (F : RvKvs h kvs l) : RvKvs h (kvs ++ [(x, v)]) (l ++ [(x, av)]) :=
  RvKvs.ind (P := fun kvs l => RvKvs h (kvs ++ [(x, v)]) (l ++ [(x, av)])) ⟨rfl, rv, trivial⟩ (fun _ _ _ _ _ r1 _ i => ⟨rfl, r1, i⟩) F
theorem Rel.dictAt {D : Addr} {l : List (Str × AV)} (R : Rel c f env ρ η s) (m : (D, .dict l) ∈ η) : ∃ kvs, s.heap.DictOf (PySem.strKind c.prog c.w) D kvs ∧ RvKvs s.heap kvs l := by
  obtain ⟨o, e, _, _, _, kvs, hd, rk⟩ := R.objs _ _ m
  exact ⟨kvs, Heap.dictOf_iff.mpr ⟨o, e, hd⟩, rk⟩
theorem strKey {prog : Program} {w : World} (x : Str) (t : Tok) : (PySem.strKind prog w).is x (.str x t) = true := by show (x == x) = true; simp
theorem Op.dictGet {D : Addr} {l : List (Str × AV)} {x : Str} (m : (D, .dict l) ∈ η) (lo : (D == sysModules) = false) (h : Φ ((l.lookup x).getD .none) η) : Op c f env (callT (.builtin "dict.get")) [.val (.ref D), .str x] ρ η Φ Ψ := fun vs s E r R _ => by
  (apply RvAll.e2 r; intro _ _ r r')
  first | apply Rv.eVal r | (apply Rv.eInt r; intro _) | (apply Rv.eStr r; intro _) | apply Rv.eBool r | cases r
  first | apply Rv.eVal r' | (apply Rv.eInt r'; intro _) | (apply Rv.eStr r'; intro _) | apply Rv.eBool r' | cases r'
  refine ea1_2 (R.dictAt m) fun kvs hD rk => ?_
  refine call_meetsIn PySem.F.slot_dict_get hD.typeIs PySem.F.entry_dict_get (PySem.F.args_dict_get_2 _ _) (meets_dict_get (PySem.strKind c.prog c.w) D (strKey _ _) lo) ⟨_, hD.mapOf, ?_⟩
  cases q : l.lookup x with
  | none => rw [q] at h; rw [rk.getNone q]; exact .same R .none h
  | some av =>
    rw [q] at h
    refine ea1_2 (rk.get q) fun v e rv => ?_
    rw [e]; exact .same R rv h
theorem Op.dictGetD {D : Addr} {l : List (Str × AV)} {x : Str} {d : AV} (m : (D, .dict l) ∈ η) (lo : (D == sysModules) = false) (h : Φ ((l.lookup x).getD d) η) : Op c f env (callT (.builtin "dict.get")) [.val (.ref D), .str x, d] ρ η Φ Ψ := fun vs s E r R _ => by
  (apply RvAll.e3 r; intro _ _ _ r r' rd)
  first | apply Rv.eVal r | (apply Rv.eInt r; intro _) | (apply Rv.eStr r; intro _) | apply Rv.eBool r | cases r
  first | apply Rv.eVal r' | (apply Rv.eInt r'; intro _) | (apply Rv.eStr r'; intro _) | apply Rv.eBool r' | cases r'
  refine ea1_2 (R.dictAt m) fun kvs hD rk => ?_
  refine call_meetsIn PySem.F.slot_dict_get hD.typeIs PySem.F.entry_dict_get (PySem.F.args_dict_get_3 _ _ _) (meets_dict_get_default (PySem.strKind c.prog c.w) D (strKey _ _) lo _) ⟨_, hD.mapOf, ?_⟩
  cases q : l.lookup x with
  | none => rw [q] at h; rw [rk.getNone q]; exact .same R rd h
  | some av =>
    rw [q] at h
    refine ea1_2 (rk.get q) fun v e rv => ?_
    rw [e]; exact .same R rv h
theorem Op.dictSub {value slice : Expr} {D : Addr} {l : List (Str × AV)} {x : Str} {av : AV} (m : (D, .dict l) ∈ η) (hl : l.lookup x = some av) (h : Φ av η) (hs : Plain slice) : Op c f env (subT value slice) [.val (.ref D), .str x] ρ η Φ Ψ := fun vs s E r R _ => by
  (apply RvAll.e2 r; intro _ _ r r')
  first | apply Rv.eVal r | (apply Rv.eInt r; intro _) | (apply Rv.eStr r; intro _) | apply Rv.eBool r | cases r
  first | apply Rv.eVal r' | (apply Rv.eInt r'; intro _) | (apply Rv.eStr r'; intro _) | apply Rv.eBool r' | cases r'
  rename_i tok
  refine ea1_2 (R.dictAt m) fun kvs hD rk => ?_
  refine ea1_2 (rk.get hl) fun v e rv => ?_
  refine ea1_1 (hs (.ref D) (.str x tok)) fun ops ho => ?_
  exact tail_any hD.typeIs slot_dict_getitem.lookup (wpAny_getItem_of (strKey _ _) hD.mapOf e (.same R rv h)) ho
theorem Op.dictNotIn {D : Addr} {l : List (Str × AV)} {x : Str} (m : (D, .dict l) ∈ η) (lo : (D == sysModules) = false) (h : Φ (.bool (!(l.lookup x).isSome)) η) : Op c f env (cmpT .NotIn) [.str x, .val (.ref D)] ρ η Φ Ψ := fun vs s E r R _ => by
  (apply RvAll.e2 r; intro _ _ r r')
  first | apply Rv.eVal r | (apply Rv.eInt r; intro _) | (apply Rv.eStr r; intro _) | apply Rv.eBool r | cases r
  first | apply Rv.eVal r' | (apply Rv.eInt r'; intro _) | (apply Rv.eStr r'; intro _) | apply Rv.eBool r' | cases r'
  refine ea1_2 (R.dictAt m) fun kvs hD rk => ?_
  refine wpAny_notIn_of (strKey _ _) lo hD.mapOf ?_
  cases q : l.lookup x with
  | none => rw [q] at h; rw [rk.getNone q]; exact .same R (.bool _) h
  | some av =>
    rw [q] at h
    refine ea1_2 (rk.get q) fun v e rv => ?_
    rw [e]; exact .same R (.bool _) h
theorem Op.setdefThere {D : Addr} {l : List (Str × AV)} {x : Str} {d av : AV} (m : (D, .dict l) ∈ η) (lo : (D == sysModules) = false) (hz : l.length ≤ 1000000) (hl : l.lookup x = some av) (h : Φ av η) : Op c f env (callT (.builtin "dict.setdefault")) [.val (.ref D), .str x, d] ρ η Φ Ψ := fun vs s E r R _ => by
  (apply RvAll.e3 r; intro _ _ _ r r' rd)
  first | apply Rv.eVal r | (apply Rv.eInt r; intro _) | (apply Rv.eStr r; intro _) | apply Rv.eBool r | cases r
  first | apply Rv.eVal r' | (apply Rv.eInt r'; intro _) | (apply Rv.eStr r'; intro _) | apply Rv.eBool r' | cases r'
  refine ea1_2 (R.dictAt m) fun kvs hD rk => ?_
  refine ea1_2 (rk.get hl) fun v e rv => ?_
  have hk := congrArg List.length rk.keys
  simp only [List.length_map] at hk
  exact call_meetsIn PySem.F.slot_dict_setdefault hD.typeIs PySem.F.entry_dict_setdefault (PySem.F.args_dict_setdefault_3 _ _ _) (kt_meets_setdefault (PySem.strKind c.prog c.w) D (strKey _ _) lo _) ⟨kvs, hD, by rw [sizeLine_eq]; lia, (fun v' hv' => by rw [e] at hv'; cases hv'; exact .same R rv h), fun hn => by rw [e] at hn; cases hn⟩
theorem Op.setdefNew {D : Addr} {l : List (Str × AV)} {x : Str} {d : AV} (U : Up D (.dict l) (.dict (l ++ [(x, d)])) η η') (lo : (D == sysModules) = false) (hz : l.length ≤ 1000000) (hl : l.lookup x = none) (h : Φ d η') : Op c f env (callT (.builtin "dict.setdefault")) [.val (.ref D), .str x, d] ρ η Φ Ψ := fun vs s E r R _ => by
  (apply RvAll.e3 r; intro _ _ _ r r' rd)
  first | apply Rv.eVal r | (apply Rv.eInt r; intro _) | (apply Rv.eStr r; intro _) | apply Rv.eBool r | cases r
  first | apply Rv.eVal r' | (apply Rv.eInt r'; intro _) | (apply Rv.eStr r'; intro _) | apply Rv.eBool r' | cases r'
  refine ea1_2 (R.dictAt U.mem.1) fun kvs hD rk => ?_
  have e := rk.getNone hl
  have hk := congrArg List.length rk.keys
  simp only [List.length_map] at hk
  refine call_meetsIn PySem.F.slot_dict_setdefault hD.typeIs PySem.F.entry_dict_setdefault (PySem.F.args_dict_setdefault_3 _ _ _) (kt_meets_setdefault (PySem.strKind c.prog c.w) D (strKey _ _) lo _) ⟨kvs, hD, by rw [sizeLine_eq]; lia, (fun v' hv' => by rw [e] at hv'; cases hv'), fun hn h' hm hs => ?_⟩
  refine ea1_2 (Heap.dictOf_iff.mp hm) fun o' ho' hd' => ?_
  have tk := R.tkUp U hs
  have es : ∀ v, stored kvs x v = kvs ++ [(x, v)] := fun v => by
    unfold stored
    rw [if_neg]
    rw [← valueAt_isSome_eq_any, e]; simp
  refine ⟨d, η', R.up U hs ho' ⟨_, hd', ?_⟩, .up R U hs ho', rd.mono tk, h⟩
  rw [es]
  exact RvKvs.snoc (rd.mono tk) (RvKvs.mono tk rk)
theorem Rel.low (ok : FOk c f n) (R : Rel c f env ρ η s) {h' : Heap} (e : h'.objs.size ≥ s.heap.objs.size) : (h'.objs.size == sysModules) = false := by
  refine ea1_1 (R.fr) fun m F => ?_
  have := modules_low ok.T.nolimit
  refine beq_eq_false_iff_ne.mpr (Nat.ne_of_gt (Nat.lt_of_lt_of_le this (Nat.le_trans F.above (Nat.le_trans (Nat.le_of_lt F.ns.lt) e))))
theorem Ev.dict0 {pos : Pos} (ok : FOk c f n) (h : ∀ D, (D == sysModules) = false → Φ (.val (.ref D)) ((D, .dict []) :: η)) : Ev c f env (.Dict [] [] pos) ρ η Φ Ψ := fun s E R _ => by
  refine wpAny_Dict_empty ?_
  refine ea1_2 (Heap.dictOf_iff.mp (Heap.DictOf.new (knd := PySem.strKind c.prog c.w) s.heap)) fun o ho hd => ?_
  rw [Heap.get?_push_size _ rfl] at ho
  have kp : ∀ b o', s.heap.get? b = some o' → (s.heap.push { cls := .type "dict", dict := none, data := .dict #[], slots := #[] }).get? b = some o' := fun b o e => Heap.get?_push_of_some _ e
  exact ⟨_, _, R.alloc (ao := .dict []) kp (Heap.get?_none_of_le (Nat.le_refl _)) (Heap.get?_push_size _ rfl) ⟨[], (Option.some.inj ho) ▸ hd, trivial⟩, .alloc kp (Heap.get?_none_of_le (Nat.le_refl _)), .val _, h _ (R.low ok (Nat.le_refl _))⟩
end
section
variable {c : Cx} {f : Fx} {env : Env} {ρ : Locals} {η η' : Store} {Φ : AV → Store → Prop} {Φb : Bool → Store → Prop} {Φn : Locals → Store → Prop} {Φr : AV → Store → Prop} {Ψ : Exc} {n : Nat} {s : Shared} {E : Value → Shared → Prop}
/-- the store's addresses are unlike -/
theorem Ev.nd {e : Expr} (h : (η.map (·.1)).Nodup → Ev c f env e ρ η Φ Ψ) : Ev c f env e ρ η Φ Ψ := fun s E R hE => h R.nd s E R hE
theorem Op.nd {t : List Value → Sem Value} {as : List AV} (h : (η.map (·.1)).Nodup → Op c f env t as ρ η Φ Ψ) : Op c f env t as ρ η Φ Ψ := fun vs s E r R hE => h R.nd vs s E r R hE
theorem Tt.nd {e : Expr} (h : (η.map (·.1)).Nodup → Tt c f env e ρ η Φb Ψ) : Tt c f env e ρ η Φb Ψ := fun s E R hE => h R.nd s E R hE
theorem Exs.nd {b : List Stmt} (h : (η.map (·.1)).Nodup → Exs c f env b ρ η Φn Φr Ψ) : Exs c f env b ρ η Φn Φr Ψ := fun s E R hE => h R.nd s E R hE
/-- these names are known, and more perhaps -/
noncomputable def Sub (ρ₀ ρ : Locals) : Prop := ∀ x av, ρ₀.lookup x = some av → ρ.lookup x = some av
theorem Sub.refl (ρ : Locals) : Sub ρ ρ := fun _ _ h => h
theorem Ex.fewer {st : Stmt} (ρ₀ : Locals) (h : Ex c f f.env st ρ η (fun ρ' η' => Sub ρ₀ ρ' ∧ Φn ρ₀ η') Φr Ψ) : Ex c f f.env st ρ η Φn Φr Ψ := fun s E R hE =>
  wpAny_mono (h s E R hE) (fun fl s' hp => by
    rcases hp with ⟨rfl, ρ', η', R', t, hs, k⟩ | q
    · exact .inl ⟨rfl, ρ₀, η', R'.fewer hs (fun _ h => h) R'.nd, t, k⟩
    · exact .inr q) fun _ _ x => x
theorem Exs.less {b : List Stmt} {ρ₀ : Locals} {η₀ : Store} (hs : Sub ρ₀ ρ) (hk : (η.map (·.1)).Nodup → (∀ p ∈ η₀, p ∈ η) ∧ (η₀.map (·.1)).Nodup) (h : Exs c f env b ρ₀ η₀ Φn Φr Ψ) : Exs c f env b ρ η Φn Φr Ψ := fun s E R hE => by
  refine ea0_2 (hk R.nd) fun h1 h2 => ?_
  have R' := R.fewer hs h1 h2
  have t : Stp f env η η₀ s s := (Stp.refl s).fewer h1
  exact wpAny_mono (h s E R' (hE.on R t)) (fun _ _ h => h.on t) fun _ _ x => x
theorem Ev.less {e : Expr} {η₀ : Store} (hk : (η.map (·.1)).Nodup → (∀ p ∈ η₀, p ∈ η) ∧ (η₀.map (·.1)).Nodup) (h : Ev c f env e ρ η₀ Φ Ψ) : Ev c f env e ρ η Φ Ψ := fun s E R hE => by
  refine ea0_2 (hk R.nd) fun h1 h2 => ?_
  have R' := R.fewer (fun _ _ h => h) h1 h2
  have t : Stp f env η η₀ s s := (Stp.refl s).fewer h1
  exact wpAny_mono (h s E R' (hE.on R t)) (fun _ _ h => h.on t) fun _ _ x => x
theorem nd_tail {p : Addr × AObj} (h : ((p :: η).map (·.1)).Nodup) : (∀ q ∈ η, q ∈ p :: η) ∧ (η.map (·.1)).Nodup := ⟨fun _ h => List.mem_cons_of_mem _ h, (List.nodup_cons.mp h).2⟩

theorem ForS.inv {target : Expr} {body : List Stmt} {dep : Option (Addr × AObj)} (ρ₀ : Locals) (I : Nat → Store → Prop) (items : List AV) (hd : ∀ i η, I i η → Dep dep η)
    (h : ∀ i d, items[i]? = some d → ∀ ρ η, Sub ρ₀ ρ → I i η → ∃ prs, AsgF c f target d prs ∧ Exs c f f.env body (prs ++ ρ) η (fun ρ' η' => Sub ρ₀ ρ' ∧ I (i + 1) η') Φr Exc.no) (hend : ∀ ρ η, Sub ρ₀ ρ → I items.length η → Φn ρ η) :
    ∀ i ρ η, Sub ρ₀ ρ → I i η → i ≤ items.length → ForS c f target body dep Φn Φr (items.drop i) ρ η := by
  have key : ∀ k i ρ η, items.length - i = k → Sub ρ₀ ρ → I i η → i ≤ items.length → ForS c f target body dep Φn Φr (items.drop i) ρ η := by
    intro k
    induction k with
    | zero =>
      intro i ρ η hk hs hi hl
      have : i = items.length := by lia
      subst this
      rw [List.drop_length]
      exact hend ρ η hs hi
    | succ k ih =>
      intro i ρ η hk hs hi hl
      have hlt : i < items.length := by lia
      rw [List.drop_eq_getElem_cons hlt]
      refine ea1_2 (h i _ (List.getElem?_eq_getElem hlt) ρ η hs hi) fun prs ha he => ?_
      refine ⟨prs, ha, fun s E R hE => wpAny_mono (he s E R hE) (fun fl s' hp => ?_) fun _ _ x => x⟩
      rcases hp with ⟨rfl, ρ', η', R', t, hs', k'⟩ | q
      · exact .inl ⟨rfl, ρ', η', R', t, hd _ _ k', ih (i + 1) ρ' η' (by lia) hs' k' hlt⟩
      · exact .inr q
  exact fun i ρ η => key _ i ρ η rfl
/-- a loop with a law that holds at each turn -/
theorem Ex.forI {target iter : Expr} {body : List Stmt} {pos : Pos} (ρ₀ : Locals) (hs : Sub ρ₀ ρ)
    (h : Ev c f f.env iter ρ η (fun a η₁ => ∃ items dep η₂, Src c f target a η₁ η₂ items dep ∧ ∃ I : Nat → Store → Prop, I 0 η₂ ∧ (∀ i η, I i η → Dep dep η) ∧
      (∀ i d, items[i]? = some d → ∀ η, I i η → ∃ prs, AsgF c f target d prs ∧ Exs c f f.env body (prs ++ ρ₀) η (fun ρ' η' => Sub ρ₀ ρ' ∧ I (i + 1) η') Φr Exc.no) ∧ ∀ η, I items.length η → Φn ρ₀ η) Ψ)
    (hf : ∀ env x, foldedSetIterable iter env x = pure x := by intro _ _; rfl) : Ex c f f.env (.For target iter body [] pos) ρ η Φn Φr Ψ :=
  .fewer ρ₀ (.for (h.mono fun a η₁ zz => ea3_2 zz fun items dep η₂ hsrc zz => ea1_4 zz fun I h0 hd hb he => ⟨items, dep, η₂, hsrc, hd _ _ h0, by
    have := ForS.inv (c := c) (f := f) (target := target) (body := body) (dep := dep) (Φn := fun ρ' η' => Sub ρ₀ ρ' ∧ Φn ρ₀ η') (Φr := Φr) ρ₀ I items hd (fun i d hi ρ η hs hI => by
      refine ea1_2 (hb i d hi η hI) fun prs ha hx => ?_
      refine ⟨prs, ha, hx.less (fun x av e => ?_) fun nd => ⟨fun _ h => h, nd⟩⟩
      rw [lookup_append] at e ⊢
      cases q : prs.lookup x with
      | some d => rw [q] at e; exact e
      | none => rw [q] at e; simp only [Option.none_or] at e ⊢; exact hs x av e) (fun ρ η hs hI => ⟨hs, he η hI⟩) 0 ρ η₂ hs h0 (Nat.zero_le _)
    simpa using this⟩) hf)
theorem lookup_sub {prs ρ₀ ρ : Locals} (h : Sub ρ₀ ρ) : Sub (prs ++ ρ₀) (prs ++ ρ) := fun x av e => by
  rw [lookup_append] at e ⊢
  cases q : prs.lookup x with
  | some d => rw [q] at e; exact e
  | none => rw [q] at e; simp only [Option.none_or] at e ⊢; exact h x av e
theorem ForS.invL {target : Expr} {body : List Stmt} {dep : Option (Addr × AObj)} (I : Nat → Locals → Store → Prop) (items : List AV) (hd : ∀ i ρ η, I i ρ η → Dep dep η)
    (h : ∀ i d, items[i]? = some d → ∀ ρ η, I i ρ η → ∃ prs, AsgF c f target d prs ∧ Exs c f f.env body (prs ++ ρ) η (fun ρ' η' => ∃ ρ₁, Sub ρ₁ ρ' ∧ I (i + 1) ρ₁ η') Φr Exc.no) :
    ∀ i ρ₀ ρ η, Sub ρ₀ ρ → I i ρ₀ η → i ≤ items.length → ForS c f target body dep (fun ρ' η' => ∃ ρ₁, Sub ρ₁ ρ' ∧ I items.length ρ₁ η') Φr (items.drop i) ρ η := by
  have key : ∀ k i ρ₀ ρ η, items.length - i = k → Sub ρ₀ ρ → I i ρ₀ η → i ≤ items.length → ForS c f target body dep (fun ρ' η' => ∃ ρ₁, Sub ρ₁ ρ' ∧ I items.length ρ₁ η') Φr (items.drop i) ρ η := by
    intro k
    induction k with
    | zero =>
      intro i ρ₀ ρ η hk hs hi hl
      have : i = items.length := by lia
      subst this
      rw [List.drop_length]
      exact ⟨ρ₀, hs, hi⟩
    | succ k ih =>
      intro i ρ₀ ρ η hk hs hi hl
      have hlt : i < items.length := by lia
      rw [List.drop_eq_getElem_cons hlt]
      refine ea1_2 (h i _ (List.getElem?_eq_getElem hlt) ρ₀ η hi) fun prs ha he => ?_
      refine ⟨prs, ha, fun s E R hE => wpAny_mono ((he.less (lookup_sub hs) fun nd => ⟨fun _ h => h, nd⟩) s E R hE) (fun fl s' hp => ?_) fun _ _ x => x⟩
      rcases hp with ⟨rfl, ρ', η', R', t, ρ₁, hs', k'⟩ | q
      · exact .inl ⟨rfl, ρ', η', R', t, hd _ _ _ k', ih (i + 1) ρ₁ ρ' η' (by lia) hs' k' hlt⟩
      · exact .inr q
  exact fun i ρ₀ ρ η => key _ i ρ₀ ρ η rfl
theorem Ex.sub {st : Stmt} (h : Ex c f f.env st ρ η (fun ρ' η' => ∃ ρ₁, Sub ρ₁ ρ' ∧ Φn ρ₁ η') Φr Ψ) : Ex c f f.env st ρ η Φn Φr Ψ := fun s E R hE =>
  wpAny_mono (h s E R hE) (fun fl s' hp => by
    rcases hp with ⟨rfl, ρ', η', R', t, ρ₁, hs, k⟩ | q
    · exact .inl ⟨rfl, ρ₁, η', R'.fewer hs (fun _ h => h) R'.nd, t, k⟩
    · exact .inr q) fun _ _ x => x
theorem Ex.mono {st : Stmt} {Φn' : Locals → Store → Prop} (h : Ex c f f.env st ρ η Φn Φr Ψ) (k : ∀ ρ η, Φn ρ η → Φn' ρ η) : Ex c f f.env st ρ η Φn' Φr Ψ := fun s E R hE =>
  wpAny_mono (h s E R hE) (fun fl s' hp => by
    rcases hp with ⟨rfl, ρ', η', R', t, q⟩ | q
    · exact .inl ⟨rfl, ρ', η', R', t, k _ _ q⟩
    · exact .inr q) fun _ _ x => x
/-- a loop with a law of the names and the store -/
theorem Ex.forL {target iter : Expr} {body : List Stmt} {pos : Pos} (ρ₀ : Locals) (hs : Sub ρ₀ ρ)
    (h : Ev c f f.env iter ρ η (fun a η₁ => ∃ items dep η₂, Src c f target a η₁ η₂ items dep ∧ ∃ I : Nat → Locals → Store → Prop, I 0 ρ₀ η₂ ∧ (∀ i ρ η, I i ρ η → Dep dep η) ∧
      (∀ i d, items[i]? = some d → ∀ ρ η, I i ρ η → ∃ prs, AsgF c f target d prs ∧ Exs c f f.env body (prs ++ ρ) η (fun ρ' η' => ∃ ρ₁, Sub ρ₁ ρ' ∧ I (i + 1) ρ₁ η') Φr Exc.no) ∧ ∀ ρ η, I items.length ρ η → Φn ρ η) Ψ)
    (hf : ∀ env x, foldedSetIterable iter env x = pure x := by intro _ _; rfl) : Ex c f f.env (.For target iter body [] pos) ρ η Φn Φr Ψ :=
  .sub (.for (h.mono fun a η₁ zz => ea3_2 zz fun items dep η₂ hsrc zz => ea1_4 zz fun I h0 hd hb he => ⟨items, dep, η₂, hsrc, hd _ _ _ h0, by
    have := ForS.invL (c := c) (f := f) (target := target) (body := body) (dep := dep) (Φr := Φr) I items hd hb 0 ρ₀ ρ η₂ hs h0 (Nat.zero_le _)
    rw [List.drop_zero] at this
    have mono : ∀ (items' : List AV) ρ η, ForS c f target body dep (fun ρ' η' => ∃ ρ₁, Sub ρ₁ ρ' ∧ I items.length ρ₁ η') Φr items' ρ η → ForS c f target body dep (fun ρ' η' => ∃ ρ₁, Sub ρ₁ ρ' ∧ Φn ρ₁ η') Φr items' ρ η := by
      intro items'
      induction items' with
      | nil => exact fun ρ η zz => ea1_2 zz fun ρ₁ a b => ⟨ρ₁, a, he _ _ b⟩
      | cons d ds ih =>
        rintro ρ η ⟨prs, ha, hx⟩
        refine ⟨prs, ha, fun s E R hE => wpAny_mono (hx s E R hE) (fun fl s' hp => ?_) fun _ _ x => x⟩
        rcases hp with ⟨rfl, ρ', η', R', t, d1, d2⟩ | q
        · exact .inl ⟨rfl, ρ', η', R', t, d1, ih _ _ d2⟩
        · exact .inr q
    exact mono items ρ η₂ this⟩) hf)
theorem CompS.inv {cenv : Env} {target elt : Expr} {dep : Option (Addr × AObj)} {Φs : List AV → Store → Prop} (I : Nat → List AV → Store → Prop) (items : List AV) (hd : ∀ i acc η, I i acc η → Dep dep η)
    (h : ∀ i d acc η, items[i]? = some d → I i acc η → ∃ prs, Asg c f cenv target d prs ∧ Ev c f cenv elt (prs ++ ρ) η (fun a η' => I (i + 1) (acc ++ [a]) η') Ψ) (hend : ∀ acc η, I items.length acc η → Φs acc η) :
    I 0 [] η → CompS c f cenv target [] elt ρ dep Φs Ψ items [] η := by
  have key : ∀ k i acc η, items.length - i = k → I i acc η → i ≤ items.length → CompS c f cenv target [] elt ρ dep Φs Ψ (items.drop i) acc η := by
    intro k
    induction k with
    | zero =>
      intro i acc η hk hi hl
      have : i = items.length := by lia
      subst this
      rw [List.drop_length]
      exact hend acc η hi
    | succ k ih =>
      intro i acc η hk hi hl
      have hlt : i < items.length := by lia
      rw [List.drop_eq_getElem_cons hlt]
      refine ea1_2 (h i _ acc η (List.getElem?_eq_getElem hlt) hi) fun prs ha he => ?_
      exact ⟨prs, ha, he.mono fun a η' k' => ⟨hd _ _ _ k', ih (i + 1) _ η' (by lia) k' hlt⟩⟩
  intro h0
  simpa using key _ 0 [] η rfl h0 (Nat.zero_le _)
theorem CompS.invT {cenv : Env} {target elt tst : Expr} {dep : Option (Addr × AObj)} {Φs : List AV → Store → Prop} (I : Nat → List AV → Store → Prop) (items : List AV) (hd : ∀ i acc η, I i acc η → Dep dep η)
    (h : ∀ i d acc η, items[i]? = some d → I i acc η → ∃ prs, Asg c f cenv target d prs ∧ Tt c f cenv tst (prs ++ ρ) η (fun b η' => Dep dep η' ∧ (b = true → Ev c f cenv elt (prs ++ ρ) η' (fun a η'' => I (i + 1) (acc ++ [a]) η'') Ψ) ∧ (b = false → I (i + 1) acc η')) Ψ) (hend : ∀ acc η, I items.length acc η → Φs acc η) :
    I 0 [] η → CompS c f cenv target [tst] elt ρ dep Φs Ψ items [] η := by
  have key : ∀ k i acc η, items.length - i = k → I i acc η → i ≤ items.length → CompS c f cenv target [tst] elt ρ dep Φs Ψ (items.drop i) acc η := by
    intro k
    induction k with
    | zero =>
      intro i acc η hk hi hl
      have : i = items.length := by lia
      subst this
      rw [List.drop_length]
      exact hend acc η hi
    | succ k ih =>
      intro i acc η hk hi hl
      have hlt : i < items.length := by lia
      rw [List.drop_eq_getElem_cons hlt]
      refine ea1_2 (h i _ acc η (List.getElem?_eq_getElem hlt) hi) fun prs ha he => ?_
      exact ⟨prs, ha, he.mono fun b η' ⟨k1, k2, k3⟩ => ⟨k1, fun q => (k2 q).mono fun a η'' k' => ⟨hd _ _ _ k', ih (i + 1) _ η'' (by lia) k' hlt⟩, fun q => ih (i + 1) _ η' (by lia) (k3 q) hlt⟩⟩
  intro h0
  simpa using key _ 0 [] η rfl h0 (Nat.zero_le _)
/-- what a call keeps of the store -/
noncomputable def Keeps (η η' : Store) : Prop := ∀ p ∈ η, p ∈ η'
theorem Keeps.put {a : Addr} {o : AObj} (h : ∀ p ∈ η, p ∈ η') : ∀ p ∈ Mine.put a o η, p ∈ Mine.put a o η' := fun p hp => by
  refine ea1_2 (List.mem_map.mp hp) fun q hq e => ?_
  exact List.mem_map.mpr ⟨q, h q hq, e⟩
theorem Keeps.refl (η : Store) : Keeps η η := fun _ h => h
theorem Keeps.cons {p : Addr × AObj} (h : Keeps η η') : Keeps η (p :: η') := fun q hq => List.mem_cons_of_mem _ (h q hq)
theorem Keeps.trans {η'' : Store} (h : Keeps η η') (k : Keeps η' η'') : Keeps η η'' := fun p hp => k p (h p hp)
theorem Keeps.up {a : Addr} {o o' : AObj} {η'' : Store} (h : Keeps η η') (u : Up a o o' η' η'') (nd : (η'.map (·.1)).Nodup) (na : a ∉ η.map (·.1)) : Keeps η η'' := fun ⟨b, x⟩ hp => u.other nd (h _ hp) fun q => na (q ▸ List.mem_map_of_mem (f := (·.1)) hp)
theorem Asg.two {x y : Str} {px py tpos : Pos} {k : Nat} {d1 d2 : AV} (hx : env.kindOf x = some .local) (hy : env.kindOf y = some .local) (hxy : x ≠ y) (hp : (env.scope.kind == .class || (env.scope.kind == .module && env.locals != env.globals)) = false) :
    Asg c f env (.Tuple [.Name x px, .Name y py] k tpos) (.tup [d1, d2]) [(y, d2), (x, d1)] := by
  intro s v m Q E r hn hQ
  (apply Rv.eTup r; intro ax vs t r)
  cases r with | cons r1 r => cases r with | cons r2 r =>
  first | apply Rv.eVal r | (apply Rv.eInt r; intro _) | (apply Rv.eStr r; intro _) | apply Rv.eBool r | cases r
  rename_i v1 v2
  show wpAny _ _ (do standAt tpos; unpack (.ref ax) (assignEach [.Name x px, .Name y py] env)) Q E s
  refine wpAny_bind (wpAny_standAt ?_)
  show wpAny _ _ (do assignInOrder [fun v => assign (.Name x px) env v, fun v => assign (.Name y py) env v] (← holding [.ref ax] (unpackItems (.ref ax) 2 none))) Q E s
  refine wpAny_bind (wpAny_holding (unpackItems_tuple (items := [v1, v2].toArray) rfl t fun h' he => ?_))
  have kp : ∀ b o, s.heap.get? b = some o → h'.get? b = some o := fun b o e => he b o (Nat.ne_of_lt (Heap.lt_size e)) e
  refine assignInOrder_cons (wpAny_assign_Name (wpAny_storeName_local hx (hn.keeps kp) (fun h₁ hn₁ hs₁ => ?_) hp))
  refine assignInOrder_cons (wpAny_assign_Name (wpAny_storeName_local hy hn₁ (fun h₂ hn₂ hs₂ => assignInOrder_nil ?_) hp))
  refine hQ h₂ _ _ hn₂ (fun z e => ?_) (fun z e q => ?_) fun b o ne e => (hs₂.2 b ne).trans ((hs₁.2 b ne).trans (kp b o e))
  · simp only [List.lookup_cons, List.lookup_nil] at e
    by_cases q1 : z = y
    · subst q1; simp at e
    · rw [show (z == y) = false from beq_eq_false_iff_ne.mpr q1] at e
      by_cases q2 : z = x
      · subst q2; simp at e
      · simp [q1, q2]
  · simp only [List.lookup_cons, List.lookup_nil] at q
    by_cases q1 : z = y
    · subst q1; simp only [beq_self_eq_true, Option.some.injEq] at q; subst q; exact ⟨hy, v2, by simp, r2⟩
    · rw [show (z == y) = false from beq_eq_false_iff_ne.mpr q1] at q
      by_cases q2 : z = x
      · subst q2; simp only [beq_self_eq_true, Option.some.injEq] at q; subst q; exact ⟨hx, v1, by simp [q1], r1⟩
      · rw [show (z == x) = false from beq_eq_false_iff_ne.mpr q2] at q; cases q
end
section
variable {c : Cx} {f : Fx} {env : Env} {ρ : Locals} {η η' : Store} {Φ : AV → Store → Prop} {Φb : Bool → Store → Prop} {Φn : Locals → Store → Prop} {Φr : AV → Store → Prop} {Ψ : Exc} {n : Nat} {s : Shared} {E : Value → Shared → Prop}
/-- the frame, some calls deeper in the machine -/
noncomputable abbrev Fx.in_ (f : Fx) (d u : Nat) (g : Option (List Code)) : Fx := ⟨f.dp + d, f.un + u, g, f.cn, f.cs, f.L, f.a, f.ccd, f.outer, f.h₀, f.base, f.A₀⟩
theorem Fx.under (f : Fx) (C : Addr) (r : List Value) : f.A.under (.builtin "type.__call__" ⟨.ref C :: r, []⟩) = (f.in_ 1 1 f.gd).A := by
  have h1 : Code.weight (.builtin "type.__call__" ⟨.ref C :: r, []⟩) = 1 := by rfl
  have h2 : Code.cUnits (.builtin "type.__call__" ⟨.ref C :: r, []⟩) = 1 := by rfl
  have h3 : Code.guards (.builtin "type.__call__" ⟨.ref C :: r, []⟩) = [] := by rfl
  have h4 : Code.envs (.builtin "type.__call__" ⟨.ref C :: r, []⟩) = [] := rfl
  unfold Around.under Fx.A
  rw [h1, h2, h3, h4]; rfl
theorem FOk.in_ {k : Nat} (ok : FOk c f (n + 1)) : FOk c (f.in_ 1 1 f.gd) n := ⟨ok.B, ok.X, ok.T, ok.hk, by have := ok.hd; show f.dp + 1 + n < 900; lia, by have := ok.hu; show f.un + 1 + 8 * n + 1000 < 9000; lia⟩
/-- an object of a class of the module is made -/
theorem Op.make {C fI : Addr} {args : List AV} {k : Nat} (ok : FOk c f n) (hm : makesIn c.K C = true) (hi : findIn c.K (.ref C) "__init__" = some (some (.ref fI))) (hf : isFn c.K (.ref fI) = true) (hk : k + 1 ≤ n)
    (h : ∀ x dx, x ≠ dx → FnC c fI k (.val (.ref x) :: args) ((x, .raw (instObj C dx)) :: (dx, .flds []) :: η) (fun v η' => v = .none ∧ Φ (.val (.ref x)) η') Ψ) : Op c f env (callT (.ref C)) args ρ η Φ Ψ := fun vs s E r R hE => by
  have ok1 : FOk c (f.in_ 1 1 f.gd) k := by
    have := ok.le hk; exact this.in_ (k := 0)
  obtain ⟨hp, g, d, t, os⟩ := s
  refine wpAny_call (make_core (h := hp) (makes_of (R.K ok) hm) (looks_findIn (R.K ok) hi) (fun self => bind_fn (R.K ok) self (beq_iff_eq.mp hf)) (.inl rfl) ?_)
  rw [Fx.under]
  have kp : ∀ b o, hp.get? b = some o → ((hp.push emptyDict).push (instObj C hp.objs.size)).get? b = some o := fun b o e => Heap.get?_push_of_some _ (Heap.get?_push_of_some _ e)
  have e1 : hp.get? (hp.objs.size + 1) = none := Heap.get?_none_of_le (Nat.le_succ _)
  have e2 : hp.get? hp.objs.size = none := Heap.get?_none_of_le (Nat.le_refl _)
  have g1 : ((hp.push emptyDict).push (instObj C hp.objs.size)).get? (hp.objs.size + 1) = some (instObj C hp.objs.size) := by
    have := Heap.get?_push_size (hp.push emptyDict) (o := instObj C hp.objs.size) rfl
    rwa [Heap.size_push] at this
  have g2 : ((hp.push emptyDict).push (instObj C hp.objs.size)).get? hp.objs.size = some emptyDict := Heap.get?_push_of_some _ (Heap.get?_push_size _ rfl)
  have R₁ := R.alloc2 (n := t) (ao := .raw (instObj C hp.objs.size)) (bo := .flds []) kp e1 e2 (Nat.succ_ne_self _) g1 ⟨rfl, fun v q => (by cases q), fun vs n => .inl fun q => (by cases q)⟩ g2 ⟨[], 0, rfl, trivial⟩
  have t₁ : Stp f env η ((hp.objs.size + 1, .raw (instObj C hp.objs.size)) :: (hp.objs.size, .flds []) :: η) ⟨hp, g, d, t, os⟩ ⟨(hp.push emptyDict).push (instObj C hp.objs.size), g, d, t, os⟩ := .alloc2 kp e1 e2
  have R₂ : Rel c (f.in_ 1 1 f.gd) env ρ ((hp.objs.size + 1, .raw (instObj C hp.objs.size)) :: (hp.objs.size, .flds []) :: η) ⟨(hp.push emptyDict).push (instObj C hp.objs.size), g, d, t, os⟩ := ⟨R₁.fr, R₁.ns, R₁.names, R₁.objs, R₁.nd, R₁.cells, R₁.frs⟩
  refine codeAny_mono (h (hp.objs.size + 1) hp.objs.size (Nat.succ_ne_self _) (f.in_ 1 1 f.gd) env ρ (.ref (hp.objs.size + 1) :: vs) _ E ok1 R₂ (.cons (.val _) (r.mono t₁.tk)) ?_) fun r' s' z => ?_
  · intro x η' s' hx hp'
    have := hE.on R t₁ x η' s'
    refine this ?_ hp'
    obtain ⟨e, rfl, q⟩ := hx
    refine ⟨e, rfl, ?_⟩
    rcases q with ⟨h, tk, t, R', t', mk⟩ | ⟨B, a0, fl, k, r1, r2, r3, r4⟩
    · exact .inl ⟨h, tk, t, ⟨R'.fr, R'.ns, R'.names, R'.objs, R'.nd, R'.cells, R'.frs⟩, ⟨t'.toStpX, t'.kp, t'.dom, t'.ex⟩, mk⟩
    · exact .inr ⟨B, a0, fl, ⟨k.hB, k.kp, k.objs, k.nd, k.ups, k.stp, k.dom⟩, r1, r2, r3, r4⟩
  · cases r' with
    | error e => exact z
    | ok fl =>
      cases fl with
      | ret v =>
        obtain ⟨av, η', a, b, d', rfl, k'⟩ := z
        cases d'
        exact ⟨rfl, .val (.ref (hp.objs.size + 1)), η', ⟨a.fr, a.ns, a.names, a.objs, a.nd, a.cells, a.frs⟩, t₁.trans ⟨b.toStpX, b.kp, b.dom, b.ex⟩, .val _, k'⟩
      | _ => exact z
theorem Flds.putNew {h : Heap} {name : Str} {hsh : Int} {tk : Tok} {v : Value} {av : AV} (rv : Rv h v av) {es : List DictEntry} {l : List (Str × AV)} (F : Flds h es l) : l.lookup name = none → putL name hsh (.str name tk) v es = es ++ [⟨hsh, .str name tk, v⟩] ∧ Flds h (es ++ [⟨hsh, .str name tk, v⟩]) (l ++ [(name, av)]) := by
    refine Flds.ind (P := fun es l => l.lookup name = none → putL name hsh (.str name tk) v es = es ++ [⟨hsh, .str name tk, v⟩] ∧ Flds h (es ++ [⟨hsh, .str name tk, v⟩]) (l ++ [(name, av)])) (fun _ => ⟨rfl, show Flds h [⟨hsh, .str name tk, v⟩] [(name, av)] from ⟨⟨_, rfl⟩, rv, trivial⟩⟩) (fun e r y d r' t k r1 q ih z => ?_) F
    rw [List.lookup_cons] at z
    by_cases w : name = y
    · subst w; simp at z
    · rw [show (name == y) = false from beq_eq_false_iff_ne.mpr w] at z
      have ne : e.key.isStr name = false := by rw [k]; exact beq_eq_false_iff_ne.mpr (Ne.symm w)
      refine ea0_2 (ih z) fun a b => ?_
      refine ⟨?_, ⟨t, k⟩, r1, b⟩
      rw [putL, ne]
      simp only [Bool.false_eq_true, if_false]
      rw [a]; rfl
theorem putL_len (name : Str) (hsh : Int) (key v : Value) : ∀ es : List DictEntry, (putL name hsh key v es).length ≤ es.length + 1
  | [] => by simp [putL]
  | e :: r => by
    rw [putL]
    split
    · simp
    · have := putL_len name hsh key v r
      rw [List.length_cons, List.length_cons]; lia
theorem Flds.length {h : Heap} {es : List DictEntry} {l : List (Str × AV)} (F : Flds h es l) : es.length = l.length :=
  Flds.ind (P := fun es l => es.length = l.length) rfl (fun _ _ _ _ _ _ _ _ _ i => congrArg (· + 1) i) F
theorem osa_at {prog : Program} {w : World} {A : Around} {K : Frag} {C x dx : Addr} {ox : Obj} {name : Str} {tk : Tok} {v : Value} {es : List DictEntry} {k : Nat} {R : Result → Shared → Prop} (X : K.In s.heap)
    (I : InstAt s.heap x ox C (some (dictOf es k))) (D : s.heap.get? dx = some (dictOf es k)) (hd : ox.dict = some dx) (hp : plainOver K C = true) (ht : takerIn K C name = some none) (hh : (clsIn K C).any (·.hasDict) = true)
    (hl : getL name es = some none) (hz : es.length ≤ 900)
    (h : ∀ h', Heap.SameBut dx s.heap h' → (∃ k', h'.get? dx = some (dictOf (putL name (PyData.keyHash w.params name) (.str name s.toks) v es) k')) → R (.ok (.ret .none)) { s with heap := h', toks := s.toks + 1 }) :
    codeAny (model prog w) A (.call (.builtin "object.__setattr__") ⟨[.ref x, .str name tk, v], []⟩) R s := by
  refine osa_open X I hp ht fun b => ?_
  refine ea1_2 (any_some hh) fun cd hc hd' => ?_
  have ep := putName_dict name (PyData.keyHash w.params name) (.str name s.toks) v es k
  have D' : (s.heap.update dx (Obj.putName name (PyData.keyHash w.params name) (.str name s.toks) v)).get? dx = some (dictOf (putL name (PyData.keyHash w.params name) (.str name s.toks) v es) (putN name es k)) := by
    rw [Heap.get?_update_self _ D (by rw [ep]; rfl), ep]
  obtain ⟨hx, hcl, hn, -⟩ := I
  obtain ⟨oc, odi, oda, osl⟩ := ox
  dsimp only at hcl hd
  subst hcl hd
  refine wpAny_bind (wpAny_pure (wpAny_bind (wpAny_bind (wpAny_loadPart hx (wpAny_bind ((looks_clsIn X hc).here ?_))))))
  rw [hd']
  refine wpAny_pure (a := some dx) (wpAny_bind (wpAny_pure (wpAny_bind ?_)))
  unfold nsSet
  refine wpAny_bind (wpAny_bind (wpAny_askSetting (wpAny_pure (wpAny_bind (wpAny_mkText (wpAny_bind (wpAny_loadPart D ?_)))))))
  have hl2 : (match es.toArray.toList.find? (·.key.isStr name) with | some e => some (some e.val) | none => if es.toArray.toList.any (·.refKey) then none else some none) = some none := hl
  dsimp only
  have cc : (!es.toArray.any (·.key.isStr name) && es.toArray.any (·.refKey)) = false := by
    rw [← Array.any_toList, ← Array.any_toList]
    split at hl2
    · cases hl2
    · split at hl2
      · cases hl2
      · rename_i z; rw [Bool.not_eq_true] at z; rw [z, Bool.and_false]
  rw [aRefKeyMayBeTheName_at, cc]
  refine wpAny_updatePart D ?_
  refine wpAny_bind (wpAny_lookBehind D' (pastItsLine_dict (by
    have := putL_len name (PyData.keyHash w.params name) (.str name s.toks) v es
    rw [List.size_toArray, sizeLine_eq]; lia)) ?_)
  exact wpAny_pure (h _ (Heap.SameBut.update ..) ⟨_, D'⟩)
/-- «self.name = e», a name that is new -/
theorem Ex.setAttr {x name : Str} {xp pos' pos : Pos} {value : Expr} {a dx C : Addr} {l : List (Str × AV)} (ok : FOk c f n) (h : Ev c f f.env value ρ η (fun av η₁ => ρ.lookup x = some (.val (.ref a)) ∧ (a, .raw (instObj C dx)) ∈ η₁ ∧ l.lookup name = none ∧ l.length ≤ 800 ∧ ∃ η₂, Up dx (.flds l) (.flds (l ++ [(name, av)])) η₁ η₂ ∧ Φn ρ η₂) Ψ)
    (hsa : findIn c.K (.ref C) "__setattr__" = some (some (.builtin "object.__setattr__"))) (hp : plainOver c.K C = true) (ht : takerIn c.K C name = some none) (hh : (clsIn c.K C).any (·.hasDict) = true)
    (hd : (x == ("__debug__" : Str)) = false := by decide) (hcd : (x == ("__classdict__" : Str)) = false := by decide)
    (hs : swapsWith value (some (.Attribute (.Name x xp) name pos')) pos.line f.env = pure false := by rfl) : Ex c f f.env (.Assign [.Attribute (.Name x xp) name pos'] value pos) ρ η Φn Φr Ψ := fun s E R hE => by
  refine plainObj_wpAny_Assign_Attribute (wpAny_mono (h s E R hE) (fun v s₁ h₁ => ?_) fun _ _ x => x) hs
  obtain ⟨av, η₁, R₁, t₁, r₁, hx, m1, hl, hz, η₂, U, k₁⟩ := h₁
  refine wpAny_mono (Ev.name (Φ := fun a' η' => a' = .val (.ref a) ∧ η' = η₁) (Ψ := Ψ) hx ⟨rfl, rfl⟩ ok.hk hd hcd s₁ E R₁ (hE.on R t₁)) (fun o s₂ h₂ => ?_) fun _ _ x => x
  obtain ⟨av', η', R₂, t₂, r₂, rfl, rfl⟩ := h₂
  first | apply Rv.eVal r₂ | (apply Rv.eInt r₂; intro _) | (apply Rv.eStr r₂; intro _) | apply Rv.eBool r₂ | cases r₂
  refine ea2_3 (R₂.inst m1 U.mem.1) fun es k I D q => ?_
  have rv := r₁.mono t₂.tk
  refine set_plain (R₂.K ok) I hsa ?_
  refine osa_at (s := { s₂ with toks := s₂.toks + 1 }) (dx := dx) (Rel.K ok (R₂.toks (s₂.toks + 1))) I D rfl hp ht hh (q.getNone hl) (by rw [q.length]; lia) fun h' hs' zz => ?_
  refine ea1_1 zz fun k' e' => ?_; try clear zz
  have tk := R₂.tkUp U hs'
  refine ea0_2 (Flds.putNew (name := name) (hsh := PyData.keyHash c.w.params name) (tk := s₂.toks + 1) (rv.mono tk) (q.mono tk) hl) fun p1 p2 => ?_
  rw [p1] at e'
  exact .inl ⟨rfl, ρ, η₂, R₂.up (n := s₂.toks + 1 + 1) U hs' e' ⟨_, k', rfl, p2⟩, (t₁.trans t₂).trans (.up R₂ U hs' e'), k₁⟩
end
section
variable {c : Cx} {f : Fx} {env : Env} {ρ : Locals} {η η' : Store} {Φ : AV → Store → Prop} {Φb : Bool → Store → Prop} {Φn : Locals → Store → Prop} {Φr : AV → Store → Prop} {Ψ : Exc} {n : Nat} {s : Shared} {E : Value → Shared → Prop}
/-- an object of the store is told of no more: it flies -/
theorem Rel.hide {ea : Addr} {o : Obj} {ao : AObj} {η₀ : Store} {s₀ : Shared} (R : Rel c f f.env ρ η s) (t : Stp f f.env η₀ η s₀ s) (m : (ea, ao) ∈ η) (e : s.heap.get? ea = some o) (nc : ∀ v, o.data ≠ .cell v) (nt : ∀ vs n, o.data ≠ .seq vs n ∨ o.cls ≠ .type "tuple") (h2 : ∀ p ∈ η', p ∈ η ∧ p.1 ≠ ea) (nd : (η'.map (·.1)).Nodup) :
    Rel c f f.env [] η' { s with heap := hideAll s.heap [ea] } ∧ Stp f f.env η₀ η' s₀ { s with heap := hideAll s.heap [ea] } := by
  obtain ⟨oe, e1, nO, nL, n0, hc⟩ := R.objs _ _ m
  have kp : ∀ b o', b ≠ ea → s.heap.get? b = some o' → (hideAll s.heap [ea]).get? b = some o' := fun b o' ne q => hideAll_get _ q (by simpa using ne)
  have tk : Tk s.heap (hideAll s.heap [ea]) := fun a vs x => by
    have ne := IsTup.ne x e nt
    refine ea1_2 x fun o' q r => ?_; try clear x
    exact ⟨o', kp a o' ne q, r⟩
  refine ea1_1 (R.fr) fun mF F => ?_
  refine ea1_1 (R.ns) fun mN N => ?_
  have nF : f.L ≠ ea := fun q => nO (.inl q.symm)
  have F' : Fr f.h₀ f.L (hideAll s.heap [ea]) mF := ⟨F.ns.at' fun o' q => kp _ o' nF q, fun b o' q => kp b o' (fun z => by subst z; rw [n0] at q; cases q) (F.keep b o' q), F.above⟩
  refine ⟨⟨⟨_, F'⟩, ⟨_, F'.ns⟩, (fun x av q => by cases q), fun a ao' q => ?_, nd, fun x cl q => ?_, R.frs⟩, ⟨t.toStpX.trans ⟨tk, _, _, _, rfl⟩, fun b o' q n1 n2 => kp b o' (fun z => ?_) (t.kp b o' q n1 n2), fun b hb => ?_, fun b o' w q => ?_⟩⟩
  · refine ea0_2 (h2 _ q) fun hm ne => ?_
    obtain ⟨o', q1, q2, q3, q4, q5⟩ := R.objs _ _ hm
    exact ⟨o', kp _ _ ne q1, q2, q3, q4, q5.mono tk⟩
  · refine ea2_2 (R.cells x cl q) fun v oc q1 q2 => ?_
    exact ⟨v, oc, kp _ _ (fun z => nO (.inr ⟨x, z ▸ q⟩)) q1, q2⟩
  · subst z
    rcases t.dom b (List.mem_map_of_mem (f := (·.1)) m) with h | h
    · exact n1 h
    · rw [q] at h; cases h
  · refine ea1_2 (List.mem_map.mp hb) fun p hp yq1 => ?_; subst yq1
    exact t.dom _ (List.mem_map_of_mem (f := (·.1)) (h2 p hp).1)
  · refine ea1_1 (t.ex b o' w q) fun o2 q2 => ?_
    exact ⟨o2, kp _ _ (fun z => nO (z ▸ w)) q2⟩
/-- «raise e», e an exception of a class of the module -/
theorem Ex.raise {e : Expr} {pos : Pos} (ok : FOk c f n) (h : Ev c f f.env e ρ η (fun a η₁ => ∃ ea o C vs a0 η₂, a = .val (.ref ea) ∧ (ea, .raw o) ∈ η₁ ∧ o.cls = .ref C ∧ o.data = .fields vs ∧ vs[1]? = some .none ∧ vs[0]? = some a0 ∧ subIn c.K (.ref C) (.type "BaseException") = some true ∧ typeIn c.K (.ref C) = some (.type "type") ∧
      Ψ.X = .ref C ∧ Ψ.P η₂ ∧ (∀ p ∈ η₂, p ∈ η₁ ∧ p.1 ≠ ea) ∧ ((η₁.map (·.1)).Nodup → (η₂.map (·.1)).Nodup)) Ψ) : Ex c f f.env (.Raise (some e) none pos) ρ η Φn Φr Ψ := fun s E R hE => by
  show wpAny _ _ (do standAt pos; raiseStmt f.env (some (do let v ← eval e f.env; standAt pos; pure v)) none) _ E s
  refine wpAny_bind (wpAny_standAt ?_)
  unfold raiseStmt
  dsimp only
  refine wpAny_bind (wpAny_bind (wpAny_mono (h s E R hE) (fun v s₁ h₁ => wpAny_bind (wpAny_standAt (wpAny_pure ?_))) fun _ _ x => x))
  obtain ⟨av, η₁, R₁, t₁, r₁, ea, o, C, vs, a0, η₂, rfl, m, hc, hd, h1, h0, hsub, hty, hX, hP, h2, hnd⟩ := h₁
  first | apply Rv.eVal r₁ | (apply Rv.eInt r₁; intro _) | (apply Rv.eStr r₁; intro _) | apply Rv.eBool r₁ | cases r₁
  obtain ⟨o', he, _, _, _, rfl, hnc, hnt⟩ := R₁.objs _ _ m
  have hno : ∀ {Q' : Bool → Shared → Prop}, Q' false s₁ → wpAny (model c.prog c.w) f.A (isType (.ref ea)) Q' E s₁ := by
    intro Q' hq
    simp only [isType, loadHead]
    refine wpAny_bind (wpAny_loadPart he ?_)
    rw [hd]; exact wpAny_pure hq
  refine wpAny_bind (wpAny_pure ?_)
  dsimp only
  refine wpAny_bind (wpAny_holding ?_)
  unfold excFromValue isExcClass
  refine wpAny_bind (wpAny_bind (hno ?_))
  simp only [Bool.false_eq_true, if_false]
  refine wpAny_pure ?_
  simp only [Bool.false_eq_true, if_false]
  have L1 : Looks (model c.prog c.w) s₁.heap (typeOf (.ref ea)) (.ref C) := (Looks.ld (part := none) he).andThen (by rw [← hc]; exact .now)
  have L2 : Looks (model c.prog c.w) s₁.heap (isInstance (.ref ea) (.type "BaseException")) true := L1.andThen (looks_subIn (R₁.K ok) hsub)
  refine wpAny_bind (L2.here ?_)
  simp only [if_true]
  refine wpAny_pure ?_
  refine wpAny_bind (hno ?_)
  simp only [Bool.false_eq_true, if_false]
  unfold raisedInstance
  refine wpAny_bind (wpAny_bind (L1.here (wpAny_bind ((looks_typeIn (R₁.K ok) hty).here ?_))))
  rw [if_pos (by decide)]
  refine wpAny_pure ?_
  unfold setFlight raiseNew
  refine wpAny_bind (wpAny_bind (wpAny_field he hd h1 ?_))
  rw [if_neg (by decide)]
  refine wpAny_pure (wpAny_bind (wpAny_handled ?_))
  have fin : E (.ref ea) s₁ := by
    refine ea0_2 (R₁.hide t₁ m he hnc hnt h2 (hnd R₁.nd)) fun R₂ t₂ => ?_
    refine hE (.ref ea) η₂ s₁ ⟨ea, rfl, .inl ⟨hideAll s₁.heap [ea], s₁.toks, (), R₂, t₂, ⟨fun b o q => of_hideAll _ q, hideAll_none _ (by simp), o', vs, a0, he, by rw [hX]; exact hc, hd, h1, h0⟩⟩⟩ hP
  rw [show f.A.handled = none from rfl]
  first
    | exact wpAny_throw fin
    | exact wpAny_bind (wpAny_pure (wpAny_throw fin))
end
section
variable {c : Cx} {f : Fx} {env : Env} {ρ : Locals} {η η' : Store} {Φ : AV → Store → Prop} {Ψ : Exc} {n : Nat} {s : Shared} {E : Value → Shared → Prop}
/-- the parts of a text, joined to what is there -/
noncomputable def Jn (c : Cx) (f : Fx) (env : Env) (out : Str) (es : List Expr) (ρ : Locals) (η : Store) (Φ : AV → Store → Prop) (Ψ : Exc) : Prop :=
  ∀ s E, Rel c f env ρ η s → Esc c f η s Ψ E → wpAny (model c.prog c.w) f.A (joinParts out (evalEach es env)) (Post c f env ρ η s Φ) E s
theorem Jn.nil {out : Str} (hz : out.length ≤ 1000000) (h : Φ (.str out) η) : Jn c f env out [] ρ η Φ Ψ := fun s E R _ =>
  joinParts_nil (.same R (.str _ _) h) (by rw [sizeLine_eq]; lia)
theorem Jn.cons {out : Str} {e : Expr} {es : List Expr} (h : Ev c f env e ρ η (fun a η₁ => ∃ y, a = .str y ∧ (out ++ y).length ≤ 1000000 ∧ Jn c f env (out ++ y) es ρ η₁ Φ Ψ) Ψ)
    (he : ∀ env, evalEach (e :: es) env = eval e env :: evalEach es env := by intro _; rfl) : Jn c f env out (e :: es) ρ η Φ Ψ := fun s E R hE => by
  rw [he]
  refine joinParts_cons (wpAny_mono (h s E R hE) (fun v s₁ h₁ => ?_) fun _ _ x => x)
  obtain ⟨av, η₁, R₁, t₁, r₁, y, rfl, hz, k₁⟩ := h₁
  first | apply Rv.eVal r₁ | (apply Rv.eInt r₁; intro _) | (apply Rv.eStr r₁; intro _) | apply Rv.eBool r₁ | cases r₁
  exact ⟨by rw [sizeLine_eq]; lia, wpAny_mono (k₁ s₁ E R₁ (hE.on R t₁)) (fun _ _ h => h.on t₁) fun _ _ x => x⟩
theorem Ev.join {a b : Expr} {es : List Expr} {pos : Pos} (h : Jn c f env Str.empty (a :: b :: es) ρ η Φ Ψ) : Ev c f env (.JoinedStr (a :: b :: es) pos) ρ η Φ Ψ := fun s E R hE => JoinedStr_many (h s E R hE)
theorem Ev.fmtStr {e : Expr} {pos : Pos} (h : Ev c f env e ρ η (fun a η₁ => ∃ x, a = .str x ∧ x.length ≤ 1000000 ∧ Φ (.str x) η₁) Ψ) : Ev c f env (.FormattedValue e (-1) none pos) ρ η Φ Ψ := fun s E R hE => by
  refine FormattedValue_plain (wpAny_mono (h s E R hE) (fun v s₁ h₁ => ?_) fun _ _ x => x)
  obtain ⟨av, η₁, R₁, t₁, r₁, x, rfl, hz, k₁⟩ := h₁
  first | apply Rv.eVal r₁ | (apply Rv.eInt r₁; intro _) | (apply Rv.eStr r₁; intro _) | apply Rv.eBool r₁ | cases r₁
  exact formatField_str (fun t' tk => ⟨_, η₁, R₁.toks _, t₁.trans .toks, .str _ _, k₁⟩) (by rw [sizeLine_eq]; lia)
theorem Ev.fmtInt {e : Expr} {pos : Pos} (h : Ev c f env e ρ η (fun a η₁ => ∃ i : Int, a = .int i ∧ i.natAbs < 2 ^ 64 ∧ Φ (.str (Str.ofString (toString i))) η₁) Ψ) : Ev c f env (.FormattedValue e (-1) none pos) ρ η Φ Ψ := fun s E R hE => by
  refine FormattedValue_plain (wpAny_mono (h s E R hE) (fun v s₁ h₁ => ?_) fun _ _ x => x)
  obtain ⟨av, η₁, R₁, t₁, r₁, i, rfl, hz, k₁⟩ := h₁
  first | apply Rv.eVal r₁ | (apply Rv.eInt r₁; intro _) | (apply Rv.eStr r₁; intro _) | apply Rv.eBool r₁ | cases r₁
  refine formatField_int_small ?_ ⟨_, η₁, R₁.toks _, t₁.trans .toks, .str _ _, k₁⟩
  by_cases h0 : i.natAbs = 0
  · rw [h0]; decide
  · exact Nat.lt_of_lt_of_le ((Nat.log2_lt h0).mpr hz) (by decide)
end
section
variable {prog : Program} {w : World} {A : Around} {E : Value → Shared → Prop} {s : Shared}
/-- a set of texts, with its table's marks -/
noncomputable def SetT (prog : Program) (w : World) (h : Heap) (a : Addr) (S : Str → Bool) (n : Nat) (led : Bool) : Prop :=
  ∃ o es ep t, h.get? a = some o ∧ o.ExactSet ∧ o.data = .set es ep t ∧ ElemsOf (PySem.strKind prog w) es.toList ∧ (∀ k, S k = true ↔ ∃ e ∈ es.toList, (PySem.strKind prog w).is k e.2 = true)
    ∧ es.size < scanBound ∧ t.fits es.size = true ∧ es.size = n ∧ t.led = led ∧ (0 < es.size → t.plain = false)
theorem put_led (t : SetTable) (j : Nat) : (t.put j).1.led = t.led := rfl
theorem layNew_led (t : SetTable) (es : Array (Int × Value)) (h : Int) (x : Value) : (layNew t es h x).2.1.led = t.led := by
  unfold layNew
  split
  · simp only [SetTable.orStandIn]
    split <;> rfl
  · rfl
theorem relay_marks (t : SetTable) (es : Array (Int × Value)) (k : Nat) : (relayAll t es k).2.1.led = t.led ∧ (t.plain = false → (relayAll t es k).2.1.plain = false) := by
  unfold relayAll
  split
  · rename_i t' order q
    unfold SetTable.relaid SetTable.laid at q
    have e : t'.led = t.led ∧ t'.plain = t.plain := by
      simp only [Option.bind_eq_bind, Option.bind_eq_some_iff, Option.pure_def, Option.some.injEq, Prod.mk.injEq] at q
      refine ea1_3 q fun ow _ yq1 _ => ?_; try clear q; subst yq1
      exact ⟨rfl, rfl⟩
    dsimp only
    split
    · exact ⟨e.1, fun z => by rw [e.2]; exact z⟩
    · exact ⟨rfl, fun _ => rfl⟩
  · exact ⟨rfl, fun _ => rfl⟩
theorem SetT.stored {h : Heap} {a : Addr} {o : Obj} {es : Array (Int × Value)} {ep : Nat} {t : SetTable} {led : Bool} (ho : h.get? a = some o) (hex : o.ExactSet) (hd : o.data = .set es ep t) {es' : Array (Int × Value)} {t' : SetTable} {S' : Str → Bool}
    (hel : ElemsOf (PySem.strKind prog w) es'.toList) (hmem : ∀ k, S' k = true ↔ ∃ e ∈ es'.toList, (PySem.strKind prog w).is k e.2 = true) (hb : es'.size < scanBound) (hf : t'.fits es'.size = true) (hl : t'.led = led) (hp : t'.plain = false) :
    (h.update a (Obj.putSet es' t')).get? a = some { o with data := .set es' (ep + 1) t' } ∧ SetT prog w (h.update a (Obj.putSet es' t')) a S' es'.size led := by
  have hg : (h.update a (Obj.putSet es' t')).get? a = some { o with data := .set es' (ep + 1) t' } := by
    have := Heap.get?_update_self (Obj.putSet es' t') ho (by rw [putSet_of es' t' hd]; rfl)
    rw [putSet_of es' t' hd] at this; exact this
  exact ⟨hg, _, es', ep + 1, t', hg, hex, rfl, hel, hmem, hb, hf, rfl, hl, fun _ => hp⟩
theorem setT_add {a : Addr} {S : Str → Bool} {n : Nat} {led : Bool} {k : Str} {tk : Tok} {Q : Bool → Shared → Prop} (hS : SetT prog w s.heap a S n led) (hroom : n + 1 < scanBound)
    (h : ∀ h', Heap.SameBut a s.heap h' → SetT prog w h' a (fun k' => S k' || decide (k' = k)) (if S k then n else n + 1) led → Q (!S k) { s with heap := h' }) :
    wpAny (model prog w) A (setAddHashed a (.str k tk) ((PySem.strKind prog w).hash k)) Q E s := by
  have hkey : (PySem.strKind prog w).is k (.str k tk) = true := by show (k == k) = true; simp
  have hsc : (Value.str k tk).scannable = true := rfl
  refine ea4_10 hS fun o es ep t ho hex hd hel hmem hb hf hn hled hpl => ?_; try clear hS
  have hb1 : es.size + 1 < scanBound := by rw [hn]; exact hroom
  unfold setAddHashed setAddHashedIn
  refine wpAny_holding (wpAny_bind (wpAny_setState_of ho hd hf ?_))
  dsimp only
  rw [byScan_of hsc hb hel]
  simp only [↓reduceIte]
  unfold setAddByScan
  refine wpAny_bind ?_
  refine wpAny_bind (wpAny_rule ?_)
  refine wpAny_bind (wpAny_setScan_of hkey ho hd hf hel ?_)
  cases hr : List.findIdx? (fun e => (PySem.strKind prog w).is k e.2) es.toList with
  | some j =>
    dsimp only
    refine ea1_2 (List.findIdx?_eq_some_iff_getElem.mp hr) fun hj hpj _ => ?_
    have hSk : S k = true := (hmem k).mpr ⟨es.toList[j], List.getElem_mem hj, hpj⟩
    refine wpAny_pure (wpAny_pure ?_)
    have := h s.heap (Heap.SameBut.refl a s.heap) ⟨o, es, ep, t, ho, hex, hd, hel, fun k' => by
      rw [Bool.or_eq_true, decide_eq_true_eq, ← hmem k']
      exact ⟨fun hk => hk.elim id (fun e => e ▸ hSk), .inl⟩, hb, hf, by rw [hSk]; exact hn, hled, hpl⟩
    rw [hSk] at this
    exact this
  | none =>
    dsimp only
    have hSk : S k = false := by
      cases hk : S k with
      | false => rfl
      | true => refine ea1_2 ((hmem k).mp hk) fun e he hp => ?_; have := List.findIdx?_eq_none_iff.mp hr e he; rw [hp] at this; exact Bool.noConfusion this
    have hgw : ∀ (b : Bool) {s₁ : Shared} {Q' : Unit → Shared → Prop}, Q' () s₁ → wpAny (model prog w) A (match b with | true => rule "set.scan.the-table-gave-way" | false => pure ()) Q' E s₁ :=
      fun b s₁ Q' hq => by cases b <;> first | exact wpAny_pure hq | exact wpAny_rule hq
    have hperm := layNew_perm t es ((PySem.strKind prog w).hash k) (.str k tk)
    have hfits := layNew_fits t es ((PySem.strKind prog w).hash k) (.str k tk)
    have hll := layNew_led t es ((PySem.strKind prog w).hash k) (.str k tk)
    generalize layNew t es ((PySem.strKind prog w).hash k) (.str k tk) = L at hperm hfits hll ⊢
    obtain ⟨es1, t1, wasDummy, gave⟩ := L
    dsimp only at hperm hfits hll ⊢
    rw [Array.toList_push] at hperm
    have hel1 : ElemsOf (PySem.strKind prog w) es1.toList := (hel.push hkey hsc).perm hperm
    have hmem1 : ∀ k', (S k' || decide (k' = k)) = true ↔ ∃ e ∈ es1.toList, (PySem.strKind prog w).is k' e.2 = true := mem_push_iff hkey hmem hperm
    have hsz1 : es1.size = n + 1 := by rw [← Array.length_toList, hperm.length_eq, List.length_append, Array.length_toList, hn]; rfl
    have hb1' : es1.size < scanBound := by rw [hsz1]; exact hroom
    rw [hSk] at h
    have h : ∀ h', Heap.SameBut a s.heap h' → SetT prog w h' a (fun k' => S k' || decide (k' = k)) es1.size led → Q true { s with heap := h' } := fun h' x y => h h' x (by rw [hsz1] at y; exact y)
    refine wpAny_bind (hgw _ ?_)
    have tail : ∀ (A : Around) (g : Bool → Sem Unit), (∀ (b : Bool) (s₁ : Shared) (Q' : Unit → Shared → Prop), Q' () s₁ → wpAny (model prog w) A (g b) Q' E s₁) → ∀ (t2 : SetTable), t2.led = led → t2.plain = false → t2.fits es1.size = true → wpAny (model prog w) A (do
        storeSet a es1 t2
        if (!wasDummy && t2.tooFull) = true then do
            g (relayAll t2 es1 (SetTable.grown es1.size)).2.2
            storeSet a (relayAll t2 es1 (SetTable.grown es1.size)).1 (relayAll t2 es1 (SetTable.grown es1.size)).2.1
            pure (some true)
          else pure (some true)) (fun x s' => x = some true ∧ Q true s') E s := fun A g hg t2 l2 p2 f2 => by
      refine wpAny_bind (wpAny_storeSet_of ho hd ?_ (fits_of_scanBound hb1'))
      refine ea0_2 (SetT.stored (prog := prog) (w := w) (es' := es1) (t' := t2) ho hex hd hel1 hmem1 hb1' f2 l2 p2) fun ho1 hS1 => ?_
      have hsb1 := Heap.SameBut.update s.heap a (Obj.putSet es1 t2)
      split
      · have hp := relayAll_perm t2 es1 (SetTable.grown es1.size)
        have hfr := relayAll_fits t2 es1 (SetTable.grown es1.size)
        have hm := relay_marks t2 es1 (SetTable.grown es1.size)
        generalize relayAll t2 es1 (SetTable.grown es1.size) = Rl at hp hfr hm ⊢
        obtain ⟨es2, t3, gave2⟩ := Rl
        dsimp only at hp hfr hm ⊢
        have hsz : es2.size = es1.size := by rw [← Array.length_toList, hp.length_eq, Array.length_toList]
        refine wpAny_bind (hg _ _ _ ?_)
        refine wpAny_bind (wpAny_storeSet_of ho1 rfl ?_ (fits_of_scanBound (by rw [hsz]; exact hb1')))
        obtain ⟨_, hS2⟩ := SetT.stored (prog := prog) (w := w) (S' := fun k' => S k' || decide (k' = k)) (es' := es2) (t' := t3) ho1 hex rfl (hel1.perm hp) (fun k' => (hmem1 k').trans ⟨fun ⟨e, he, q⟩ => ⟨e, hp.mem_iff.mpr he, q⟩, fun ⟨e, he, q⟩ => ⟨e, hp.mem_iff.mp he, q⟩⟩) (by rw [hsz]; exact hb1') hfr (hm.1.trans l2) (hm.2 p2)
        rw [hsz] at hS2
        exact wpAny_pure ⟨rfl, h _ (hsb1.trans (Heap.SameBut.update _ a _)) hS2⟩
      · exact wpAny_pure ⟨rfl, h _ hsb1 hS1⟩
    have hbv : hashByValue 8 (.str k tk) = pure false := by rw [hashByValue_scannable 8 hsc]; rfl
    split
    · refine wpAny_bind ?_
      rw [hbv]
      refine wpAny_pure ?_
      simp only [Bool.false_eq_true, if_false]
      refine wpAny_mono (tail _ _ ?_ _ (hll.trans hled) rfl (SetTable.fits_plain_off hfits)) (fun x s' hx => ?_) fun _ _ x => x
      · intro b s₁ Q' hq; cases b <;> first | exact wpAny_pure hq | exact wpAny_rule hq
      · refine ea0_2 hx fun yq2 hq => ?_; try clear hx; subst yq2
        exact wpAny_pure hq
    · rename_i hpf
      refine wpAny_bind (wpAny_pure ?_)
      simp only [↓reduceIte]
      refine wpAny_mono (tail _ _ ?_ _ (hll.trans hled) (by simpa using hpf) hfits) (fun x s' hx => ?_) fun _ _ x => x
      · intro b s₁ Q' hq; cases b <;> first | exact wpAny_pure hq | exact wpAny_rule hq
      · refine ea0_2 hx fun yq3 hq => ?_; try clear hx; subst yq3
        exact wpAny_pure hq
end
section
variable {prog : Program} {w : World} {A : Around} {R : Result → Shared → Prop} {I : Addr} {fp wr : List Addr} {G : Array GenState → Array GenState → Prop} {n : Nat} {P : Nat → Value → Prop} {St : Nat → Shared → Prop}
/-- a set is filled from an iterator -/
theorem set_fill (W : WalksS prog w A.in1 I fp wr G n P St) (D : Addr) (hD : D ∉ fp) (S : Nat → Str → Bool) (cnt : Nat → Nat) (val : Nat → Str) (led : Bool)
    (hval : ∀ i v, P i v → ∃ t, v = Value.str (val i) t) (hS : ∀ i k, S (i + 1) k = (S i k || decide (k = val i))) (hc : ∀ i, cnt (i + 1) = if S i (val i) then cnt i else cnt i + 1) (hb : ∀ i, i ≤ n → cnt i + 1 < scanBound) :
    ∀ (j i : Nat) (s : Shared), n - i = j → i ≤ n → St i s → SetT prog w s.heap D (S i) (cnt i) led →
      (∀ s', Moved (D :: wr) G s s' → SetT prog w s'.heap D (S n) (cnt n) led → R (.ok (.ret .none)) s') → codeAny (model prog w) A (.builtin "set.update.loop" ⟨[.ref D, .ref I], []⟩) R s := by
  have hDw : D ∉ wr := fun h => hD (W.sub _ h)
  intro j
  induction j with
  | zero =>
    intro i s hj hi st hSet hR
    obtain rfl : i = n := by lia
    refine codeAny_builtin PyProof.Rows.F.entry_set_update_loop ?_
    rw [Around.under_plainId PyProof.Rows.F.plain_set_update_loop _]
    show wpAny _ A.in1 (pyNext (.ref I) >>= _) _ _ s
    refine wpAny_bind (W.done s _ _ st fun s' hm => ?_)
    show wpAny _ A.in1 (ret Value.none) _ _ s'
    refine wpAny_pure (hR s' (hm.mono fun b hb => List.mem_cons_of_mem _ hb) ?_)
    refine ea4_2 hSet fun o es ep t ho r => ?_; try clear hSet
    exact ⟨o, es, ep, t, hm.heap D _ hDw ho, r⟩
  | succ j ih =>
    intro i s hj hi st hSet hR
    have hlt : i < n := by lia
    refine codeAny_builtin PyProof.Rows.F.entry_set_update_loop ?_
    rw [Around.under_plainId PyProof.Rows.F.plain_set_update_loop _]
    show wpAny _ A.in1 (pyNext (.ref I) >>= _) _ _ s
    refine wpAny_bind (W.item i s _ _ hlt st fun v s' hP st' hm => ?_)
    refine ea1_1 (hval i v hP) fun tv yq4 => ?_; subst yq4
    have hSet' : SetT prog w s'.heap D (S i) (cnt i) led := by
      refine ea4_2 hSet fun o es ep t ho r => ?_; try clear hSet
      exact ⟨o, es, ep, t, hm.heap D _ hDw ho, r⟩
    show wpAny _ A.in1 (holding [Value.str (val i) tv] (setAdd D (.str (val i) tv)) >>= _) _ _ s'
    refine wpAny_bind (wpAny_holding ?_)
    unfold setAdd
    refine wpAny_holding (wpAny_bind ((PySem.strKind prog w).pyHash (k := val i) (by show (val i == val i) = true; simp) ?_))
    refine setT_add (s := { s' with toks := s'.toks + 1 }) hSet' (hb i hi) fun h' hs hSet2 => ?_
    have e1 : (fun k' => S i k' || decide (k' = val i)) = S (i + 1) := funext fun k => (hS i k).symm
    rw [e1, ← hc i] at hSet2
    refine wpAny_pure ⟨plainId_quiet PyProof.Rows.F.plain_set_update_loop _, ih (i + 1) _ (by lia) hlt (W.frame _ s' _ _ st' (Nat.le_succ _) fun b hb' o e => ?_) hSet2 fun s'' hm'' hS'' => ?_⟩
    · rw [hs.2 b (fun q : b = D => hD (q ▸ hb'))]; exact e
    · refine hR s'' (Moved.trans W.gtrans ((hm.mono fun b hb => List.mem_cons_of_mem _ hb).then_heap (Nat.le_succ _) fun b o hb' e => ?_) hm'') hS''
      rw [hs.2 b (fun q : b = D => hb' (q ▸ List.mem_cons_self))]; exact e
end
section
variable {prog : Program} {w : World} {A : Around} {E : Value → Shared → Prop} {s : Shared}
theorem set_new (a : Value) {Q₁ : Value → Shared → Prop}
    (h : Q₁ (.ref s.heap.objs.size) { s with heap := s.heap.push { cls := .type "set", dict := none, data := .set #[] 0 (.fresh 0 0 (!w.params.followText "set-order")) } }) :
    codeAny (model prog w) A (.call (.builtin "set.__new__") ⟨[.type "set", a], []⟩) (wants Q₁ E) s := by
  refine codeAny_of_tree ?_
  show wpAny _ A.in1 (do checkBuiltinCall "set.__new__" ⟨[.type "set", a], []⟩; again (.builtin "set.__new__" ⟨[.type "set", a], []⟩)) _ _ s
  refine wpAny_bind (wpAny_of_eq (PySem.F.newCall_set_1 a) (wpAny_pure ⟨plainId_quiet PySem.F.plain_set_new _, codeAny_builtin PySem.F.entry_set_new ?_⟩))
  rw [Around.under_plainId PySem.F.plain_set_new _]
  unfold Builtin.«set.__new__» Builtin.Frozenset.newClass
  have hsub := sub_set_self
  obtain ⟨hp, g, d, tk, os⟩ := s
  dsimp only
  wp_walk
  refine wpAny_askSetting (wpAny_pure ?_)
  dsimp only
  simp only [newObj]
  refine wpAny_bind (wpAny_alloc (wpAny_pure ?_))
  exact wpAny_pure h
theorem set_call {l : Addr} {items : Array Value} {Q : Value → Shared → Prop} (hh : A.handled = none) (hl : s.heap.IsList l items) (S : Nat → Str → Bool) (cnt : Nat → Nat) (val : Nat → Str)
    (hval : ∀ i v, items[i]? = some v → ∃ t, v = Value.str (val i) t) (h0 : ∀ k, S 0 k = false) (c0 : cnt 0 = 0) (hS : ∀ i k, S (i + 1) k = (S i k || decide (k = val i))) (hc : ∀ i, cnt (i + 1) = if S i (val i) then cnt i else cnt i + 1) (hb : ∀ i, i ≤ items.size → cnt i + 1 < scanBound)
    (h : ∀ (h' : Heap) (tk : Nat), SetT prog w h' s.heap.objs.size (S items.size) (cnt items.size) (!w.params.followText "set-order") → (∀ b o, s.heap.get? b = some o → h'.get? b = some o) → Q (.ref s.heap.objs.size) { s with heap := h', toks := tk }) :
    wpAny (model prog w) A (call (.type "set") [.ref l]) Q E s := by
  refine ea2_1 (PySem.F.called_set.mro) fun c tl hmro => ?_
  have hmade := PySem.F.called_set.made
  have hsub := PySem.F.called_set.sub
  have h1 := PySem.F.called_set.notType
  have h2 := PySem.F.called_set.canCreate
  have hct := PySem.F.typeCall_set_1 (.ref l)
  refine wpAny_call (codeAny_of_tree ?_)
  show wpAny _ _ (callAny (.type "set") _) _ _ _
  refine wpAny_pure ⟨Code.quiet_builtin _ (by decide +kernel), codeAny_builtin PySem.F.entry_type_call ?_⟩
  rw [Around.under_plain (weight_type_call_type "set" [.ref l] []) rfl]
  repeat (any_goals (first | assumption | wp_step))
  refine codeAny_mono (set_new (.ref l) (E := E) (Q₁ := fun obj s₁ => obj = .ref s.heap.objs.size ∧ s₁ = { s with heap := s.heap.push { cls := .type "set", dict := none, data := .set #[] 0 (.fresh 0 0 (!w.params.followText "set-order")) } }) ⟨rfl, rfl⟩) fun r s₁ hr => ?_
  rcases r with e | fl
  · exact hr
  cases fl with
  | ret obj =>
    refine ea0_2 hr fun yq5 yq6 => ?_; try clear hr; subst yq5; subst yq6
    generalize hled : (!w.params.followText "set-order") = led at h ⊢
    generalize hH : s.heap.push { cls := .type "set", dict := none, data := .set #[] 0 (.fresh 0 0 led) } = H
    have gS : H.get? s.heap.objs.size = some { cls := .type "set", dict := none, data := .set #[] 0 (.fresh 0 0 led) } := hH ▸ Heap.get?_push_size _ rfl
    have kH : ∀ b o, s.heap.get? b = some o → H.get? b = some o := fun b o e => hH ▸ Heap.get?_push_of_some _ e
    have zH : H.objs.size = s.heap.objs.size + 1 := by rw [← hH, Heap.size_push]
    have hT : Shared.TypeIs { s with heap := H } (.ref s.heap.objs.size) "set" := ⟨_, gS, rfl⟩
    have hli := PySem.F.called_set.init.lookup
    have hbi := PySem.F.called_set.init.bind (.ref s.heap.objs.size)
    repeat (any_goals (first | assumption | wp_step))
    refine codeAny_mono (codeAny_call_builtin (R := wants (fun r s₂ => r = .none ∧ ∃ h' tk, s₂ = { s with heap := h', toks := tk } ∧ SetT prog w h' s.heap.objs.size (S items.size) (cnt items.size) led ∧ (∀ b o, s.heap.get? b = some o → h'.get? b = some o)) E)
      PySem.F.called_set.init.plain PySem.F.entry_set_init (check_set_init_1 hT ?_)) fun r₂ s₂ hr₂ => ?_
    · refine ea1_3 hl fun ol hol hcl zq7 => ?_; try clear hl; refine ea1_1 zq7 fun nl hdl => ?_; clear zq7
      obtain ⟨ocls, odict, odata, oslots⟩ := ol
      simp only at hcl hdl
      subst hcl; subst hdl
      have hol' := kH _ _ hol
      have hsls := PySem.F.sub_list_set
      have hslf := PySem.F.sub_list_frozenset
      have hne : (Value.type "list" == Value.type "dict") = false := by decide
      have hl1 : H.IsList l items := ⟨_, hol', rfl, nl, rfl⟩
      unfold Builtin.«set.__init__» noKeywords Builtin.Frozenset.updateFrom
      generalize hPI : pyIter = PI
      wp_walk
      subst hPI
      refine wpAny_pyIter_list hl1 ?_
      refine wpAny_bind (wpAny_runValue ?_)
      have lS : l < s.heap.objs.size := Heap.lt_size hol
      have hh3 : A.in1.in1.in1.handled = none := by simp [hh]
      have lI : l ≠ H.objs.size := by rw [zH]; exact Nat.ne_of_lt (Nat.lt_succ_of_lt lS)
      refine set_fill ((Walks.list hh3 _ l lI items).toS) s.heap.objs.size (by
        simp only [List.mem_cons, List.mem_singleton, List.not_mem_nil, or_false, not_or]
        exact ⟨by rw [zH]; exact Nat.ne_of_lt (Nat.lt_succ_self _), Nat.ne_of_gt lS⟩) S cnt val led (fun i v hv => hval i v hv) hS hc hb (items.size - 0) 0 _ (by lia) (Nat.zero_le _)
        ⟨⟨_, Heap.get?_push_size _ rfl, rfl, rfl⟩, (hl1.push _)⟩ ?_ ?_
      · refine ⟨_, #[], 0, .fresh 0 0 led, Heap.get?_push_of_some _ gS, ⟨rfl, rfl, rfl⟩, rfl, fun e he => by simp at he, fun k => ?_, by unfold scanBound; simp, by rfl, by rw [c0]; rfl, rfl, fun z => by simp at z⟩
        rw [h0 k]; simp
      · intro s' hm hS'
        obtain ⟨h', g', d', tk', os'⟩ := s'
        obtain ⟨m1, m2, m3, m4, m5⟩ := hm
        simp only at m2 m3 m4
        subst m2 m3 m4
        show wpAny _ _ _ _ _ _
        refine wpAny_pure ?_
        show wpAny _ _ (ret Value.none) _ _ _
        refine wpAny_pure ⟨rfl, h', tk', rfl, hS', fun b o e => m1 b o ?_ (Heap.get?_push_of_some _ (kH b o e))⟩
        have hb := Heap.lt_size e
        simp only [List.mem_cons, List.mem_singleton, List.not_mem_nil, or_false, not_or]
        exact ⟨Nat.ne_of_lt hb, by rw [zH]; exact Nat.ne_of_lt (Nat.lt_succ_of_lt hb)⟩
    · rcases r₂ with e | fl₂
      · exact hr₂
      cases fl₂ with
      | ret r =>
        refine ea0_2 hr₂ fun yq8 zq9 => ?_; try clear hr₂; subst yq8; refine ea2_3 zq9 fun h' tk yq10 hS' hk' => ?_; subst yq10; clear zq9
        repeat (any_goals (first | assumption | wp_step))
        exact h _ _ hS' hk'
      | _ => exact hr₂.elim
  | _ => exact hr.elim
end
noncomputable def stepS (σ : List Str) (v : Str) : List Str := if σ.contains v then σ else σ ++ [v]
noncomputable def dd (l : List Str) : List Str := l.foldl stepS []
theorem dd_snoc (l : List Str) (v : Str) : dd (l ++ [v]) = stepS (dd l) v := by unfold dd; rw [List.foldl_append]; rfl
theorem step_contains (σ : List Str) (v k : Str) : (stepS σ v).contains k = (σ.contains k || decide (k = v)) := by
  unfold stepS
  split
  · rename_i h
    by_cases e : k = v
    · subst e; simp only [h, Bool.true_or]
    · simp [e]
  · rw [Bool.eq_iff_iff]
    simp
theorem dd_contains (l : List Str) : ∀ k, (dd l).contains k = l.contains k := by
  have key : ∀ (l σ : List Str) k, (l.foldl stepS σ).contains k = (σ.contains k || l.contains k) := by
    intro l
    induction l with
    | nil => intro σ k; simp
    | cons a l ih =>
      intro σ k
      rw [List.foldl_cons, ih, step_contains, List.contains_cons]
      have : (k == a) = decide (k = a) := by rw [Bool.eq_iff_iff]; simp
      rw [this, Bool.or_assoc]
  intro k
  have := key l [] k
  rw [List.contains_nil, Bool.false_or] at this
  exact this
theorem step_len (σ : List Str) (v : Str) : (stepS σ v).length = if σ.contains v then σ.length else σ.length + 1 := by unfold stepS; split <;> simp
theorem dd_len (l : List Str) : (dd l).length ≤ l.length := by
  have key : ∀ (l σ : List Str), (l.foldl stepS σ).length ≤ σ.length + l.length := by
    intro l
    induction l with
    | nil => intro σ; simp
    | cons a l ih =>
      intro σ
      rw [List.foldl_cons]
      have := ih (stepS σ a)
      have h2 := step_len σ a
      rw [List.length_cons]
      split at h2 <;> lia
  have := key l []
  rw [List.length_nil, Nat.zero_add] at this
  exact this
section
variable {c : Cx} {f : Fx} {env : Env} {ρ : Locals} {η η' : Store} {Φ : AV → Store → Prop} {Ψ : Exc} {n : Nat} {s : Shared} {E : Value → Shared → Prop}
theorem RvAll.strs {h : Heap} : ∀ {vs : List Value} {xs : List Str}, RvAll h vs (xs.map .str) → ∀ i v, vs[i]? = some v → ∃ t, v = Value.str (xs.getD i default) t
  | [], [], _, i, v, e => by simp at e
  | u :: vs, x :: xs, .cons r r', i, v, e => by
    cases i with
    | zero => simp only [List.getElem?_cons_zero, Option.some.injEq] at e; subst e; cases r; exact ⟨_, rfl⟩
    | succ i => simp only [List.getElem?_cons_succ] at e; refine ea1_1 (RvAll.strs r' i v e) fun t q => ?_; exact ⟨t, by simpa using q⟩
theorem range_getD (xs : List Str) : (List.range xs.length).map (fun i => xs.getD i default) = xs := by
  apply List.ext_getElem?
  intro i
  rw [List.getElem?_map]
  by_cases h : i < xs.length
  · rw [List.getElem?_range h]; simp [h]
  · rw [List.getElem?_eq_none (by simpa using h), List.getElem?_eq_none (by simpa using h)]; rfl
/-- a set of texts -/
theorem Op.setL {D : Addr} {xs : List Str} (m : (D, .list (xs.map .str)) ∈ η) (hz : xs.length ≤ 4000) (h : ∀ D', Φ (.val (.ref D')) ((D', .set xs (dd xs).length) :: η)) : Op c f env (callT (.type "set")) [.val (.ref D)] ρ η Φ Ψ := fun vs s E r R _ => by
  (apply RvAll.e1 r; intro _ r)
  first | apply Rv.eVal r | (apply Rv.eInt r; intro _) | (apply Rv.eStr r; intro _) | apply Rv.eBool r | cases r
  obtain ⟨o, e, _, _, _, ws, k, rfl, r⟩ := R.objs _ _ m
  have hl : ws.length = xs.length := by rw [r.length, List.length_map]
  refine set_call (s := s) rfl ⟨_, e, rfl, k, rfl⟩ (fun i k => ((List.range i).map fun j => xs.getD j default).contains k) (fun i => (dd ((List.range i).map fun j => xs.getD j default)).length) (fun j => xs.getD j default)
    (fun i v hv => r.strs i v (by simpa using hv)) (fun _ => rfl) rfl (fun i k => ?_) (fun i => ?_) (fun i hi => ?_) fun h' tk hS kp => ?_
  · simp only [List.range_succ, List.map_append, List.map_cons, List.map_nil, List.contains_append, List.contains_cons, List.contains_nil, Bool.or_false]
    congr 1
  · rw [List.range_succ, List.map_append, List.map_cons, List.map_nil, dd_snoc, step_len, dd_contains]
  · have := dd_len ((List.range i).map fun j => xs.getD j default)
    rw [List.length_map, List.length_range] at this
    have hi : i ≤ ws.length := by simpa using hi
    unfold scanBound; lia
  · have hsz : ws.toArray.size = xs.length := by rw [List.size_toArray, hl]
    rw [hsz, range_getD] at hS
    refine ea4_10 hS fun o' es ep t q1 q2 q3 q4 q5 q6 q7 q8 q9 q10 => ?_; try clear hS
    exact ⟨_, _, R.alloc (ao := .set xs (dd xs).length) kp (Heap.get?_none_of_le (Nat.le_refl _)) q1 ⟨es, ep, t, q2, q3, q4, q5, q6, q7, q8, q9, q10⟩, .alloc kp (Heap.get?_none_of_le (Nat.le_refl _)), .val _, h _⟩
theorem Op.lenSet {D : Addr} {xs : List Str} {k : Nat} (m : (D, .set xs k) ∈ η) (h : Φ (.int k) η) : Op c f env (callT (.builtin "len")) [.val (.ref D)] ρ η Φ Ψ := fun vs s E r R _ => by
  (apply RvAll.e1 r; intro _ r)
  first | apply Rv.eVal r | (apply Rv.eInt r; intro _) | (apply Rv.eStr r; intro _) | apply Rv.eBool r | cases r
  obtain ⟨o, e, _, _, _, es, ep, t, q2, q3, q4, q5, q6, q7, q8, q9⟩ := R.objs _ _ m
  refine call_len_set e q2 q3 q7 (by unfold scanBound at q6; lia) ?_
  rw [q8]
  exact .same R (.int _ _) h
end
/-! ### walking over a set of texts -/
theorem si_slot : Slot "set_iterator" "__next__" "set_iterator.__next__" :=
  .of (owner := "set_iterator") (n := "__next__") (by rw [typeLookup_type, builtinLookup_eq_fast]; kernel_rfl) (by decide +kernel) (by decide +kernel) (by decide +kernel)
    (by first | exact .inl (by decide +kernel) | exact .inr (by decide +kernel)) (by rw [isSubtype_type]; kernel_rfl)
theorem si_entry : entryFor table "set_iterator.__next__" = some Builtin.«set_iterator.__next__» := entryFor_of_tree (by kernel_rfl)
theorem si_owner : Manifest.owners.lookup (String.ofList ['r', 'o', 't', 'a', 'r', 'e', 't', 'i', '_', 't', 'e', 's'].reverse) = some Manifest.sig_set_iterator := by kernel_rfl
theorem si_args (a : Value) : argsOk "set_iterator.__next__" ⟨[a], []⟩ := by
  unfold argsOk; rw [signature?_of (id := "set_iterator.__next__") (n := ['_', '_', 't', 'x', 'e', 'n', '_', '_']) (o := ['r', 'o', 't', 'a', 'r', 'e', 't', 'i', '_', 't', 'e', 's']) (by kernel_rfl) si_owner]; kernel_rfl
theorem si_entry_iter : entryFor table "set.__iter__" = some Builtin.«frozenset.__iter__» :=
  entryFor_alias (id' := "frozenset.__iter__") (by kernel_rfl) rfl (by decide +kernel) (by kernel_rfl)
noncomputable abbrev setItO (F : Value) (a : Addr) (i n ep : Nat) : Obj := { cls := .type "set_iterator", dict := none, data := .fields #[F, .int i 0, .ref a, .int n 0, .int ep 0], slots := #[] }

theorem erase_perm {α : Type} : ∀ (l : List α) (i : Nat) (h : i < l.length), (l[i] :: l.eraseIdx i).Perm l
  | x :: r, 0, h => by simp
  | x :: r, i + 1, h => by
    have := erase_perm r i (by simpa using h)
    simp only [List.getElem_cons_succ, List.eraseIdx_cons_succ]
    exact (List.Perm.swap _ _ _).trans (this.cons x)
theorem pickGo_perm {α : Type} (next : Nat → Nat) : ∀ (fuel k : Nat) (left : List α) (out : Array α), left.length = fuel → (pickOrder.go next fuel k left out).toList.Perm (out.toList ++ left)
  | 0, k, left, out, h => by
    have : left = [] := List.length_eq_zero_iff.mp h
    subst this; simp [pickOrder.go]
  | fuel + 1, k, left, out, h => by
    have hlt : next k % left.length < left.length := Nat.mod_lt _ (by lia)
    unfold pickOrder.go
    rw [List.getElem?_eq_getElem hlt]
    dsimp only
    refine (pickGo_perm next fuel (k + 1) _ _ (by rw [List.length_eraseIdx, if_pos hlt, h]; rfl)).trans ?_
    rw [Array.toList_push, List.append_assoc]
    refine List.Perm.append_left _ ?_
    exact (erase_perm _ _ hlt)
theorem pick_perm {α : Type} (next : Nat → Nat) (xs : Array α) : (pickOrder next xs).toList.Perm xs.toList := by
  have := pickGo_perm next xs.size 0 xs.toList #[] (by simp)
  simpa [pickOrder] using this
section
variable {prog : Program} {w : World} {A : Around} {E : Value → Shared → Prop} {s : Shared}
theorem wpAny_choose {src : Source} {n : Nat} {Q : Nat → Shared → Prop} (h0 : 0 < n) (h : ∀ i d, i < n → Q i { s with drawn := d }) : wpAny (model prog w) A (choose src n) Q E s := fun Γ p hΓ => by
  show Sem.wp _ _ (.choose src n .pure) _ _ p s
  rw [Sem.wp_choose]
  exact ⟨by lia, by simpa using h _ _ (Nat.mod_lt _ h0)⟩
theorem draw_perm {α : Type} : ∀ (n : Nat) (xs : List α) (s : Shared) (Q : List α → Shared → Prop), xs.length = n → (∀ ys d, ys.Perm xs → Q ys { s with drawn := d }) → wpAny (model prog w) A (drawOrder n xs) Q E s
  | 0, xs, s, Q, hl, h => by
    have : xs = [] := List.length_eq_zero_iff.mp hl
    subst this
    exact wpAny_pure (h [] s.drawn .nil)
  | n + 1, [], s, Q, hl, h => by simp at hl
  | n + 1, x :: r, s, Q, hl, h => by
    show wpAny _ _ (do let i ← choose .order (x :: r).length; match (x :: r)[i]? with | some x' => return x' :: (← drawOrder n ((x :: r).eraseIdx i)) | none => unsupported "internal:drawOrder") Q E s
    refine wpAny_bind (wpAny_choose (by simp) fun i d hi => ?_)
    rw [List.getElem?_eq_getElem hi]
    dsimp only
    refine wpAny_bind (draw_perm n _ _ _ (by rw [List.length_eraseIdx, if_pos hi, hl]; rfl) fun ys d' hp => wpAny_pure (h _ d' ?_))
    exact (List.Perm.cons _ hp).trans (erase_perm _ _ hi)
end
/-- how a walk over the set stands at its i-th item -/
noncomputable def SGo (w : World) (X : List Addr) (h : Heap) (a : Addr) (es : Array (Int × Value)) (ep : Nat) (t : SetTable) (vs : List Value) (F : Value) (i : Nat) : Prop :=
  (w.params.followText "set-order" = true ∧ F = .int 0 0 ∧ vs = (pickOrder (w.params.setOrder a ep) es).toList.map (·.2))
  ∨ (∃ (tp : Addr) (ps : List Nat), F = .ref tp ∧ tp ∈ X ∧ (∀ j ∈ ps, j < es.size) ∧ h.IsTuple tp (ps.map fun (j : Nat) => Value.int j 0).toArray ∧ vs = ps.map fun j => (es.getD j (0, .none)).2)
  ∨ (w.params.followText "set-order" = false ∧ es.size ≤ 1 ∧ t.led = true ∧ vs = es.toList.map (·.2) ∧ F = .int (if i = 0 then 0 else t.place.getD 0 0 + 1) 0)
section
variable {prog : Program} {w : World} {A : Around} {E : Value → Shared → Prop} {s : Shared} {it a : Addr} {o : Obj} {es : Array (Int × Value)} {ep : Nat} {t : SetTable} {vs : List Value} {F : Value} {i : Nat} {X : List Addr}
theorem below0 (t : SetTable) (h : t.place.size = 0) (k : Nat) : SetTable.below t.place k = 0 := by
  unfold SetTable.below; rw [h]; rfl
theorem below1 (t : SetTable) (h : t.place.size = 1) (k : Nat) : SetTable.below t.place k = if t.place.getD 0 0 < k then 1 else 0 := by
  have e : t.place.getD 0 k = t.place.getD 0 0 := by simp [Array.getD, h]
  unfold SetTable.below; rw [h]; simp only [SetTable.below.go, Nat.zero_lt_one, if_true]
  simp only [Nat.zero_add, Nat.reduceDiv, e]
theorem si_next (ho : s.heap.get? a = some o) (hd : o.data = .set es ep t) (hf : t.fits es.size = true) (hvs : vs.length = es.size) (hled : t.led = (!w.params.followText "set-order")) (hpl : 0 < es.size → t.plain = false) {k : Nat}
    (g : SGo w X s.heap a es ep t vs (.int k 0) i) (hi : i ≤ es.size) {Q : Option (Value × Nat) → Shared → Prop}
    (h : ∀ k' : Nat, (match vs[i]? with | some v => SGo w X s.heap a es ep t vs (.int k' 0) (i + 1) | none => True) → Q (vs[i]?.map fun v => (v, k')) s) : wpAny (model prog w) A (setNext a k i ep) Q E s := by
  unfold setNext setsByText
  refine wpAny_bind (wpAny_setState_of ho hd hf ?_)
  dsimp only
  refine wpAny_bind (wpAny_bind (wpAny_askSetting (wpAny_pure ?_)))
  rcases g with ⟨g1, g2, g3⟩ | ⟨tp, ps, g1, _⟩ | ⟨g1, g2, g3, g4, g5⟩
  · dsimp only [model]
    simp only [g1, if_true, bne_self_eq_false, Bool.false_eq_true, if_false]
    unfold setWalk setsByText
    refine wpAny_bind (wpAny_bind (wpAny_setState_of ho hd hf ?_))
    dsimp only
    refine wpAny_bind (wpAny_bind (wpAny_askSetting (wpAny_pure ?_)))
    dsimp only
    simp only [g1, if_true]
    refine wpAny_bind (wpAny_askSetting (wpAny_pure (wpAny_pure ?_)))
    have hk := h k
    have e1 : vs[i]? = (pickOrder (w.params.setOrder a ep) es)[i]?.map (·.2) := by rw [g3, List.getElem?_map, Array.getElem?_toList]
    rw [e1] at hk
    cases q : (pickOrder (w.params.setOrder a ep) es)[i]? with
    | none => rw [q] at hk; exact hk trivial
    | some e => rw [q] at hk; cases g2; exact hk (.inl ⟨g1, rfl, g3⟩)
  · cases g1
  · dsimp only [model]
    simp only [g1, Bool.false_eq_true, if_false]
    refine wpAny_ite_split (fun hab => absurd hab (by
      show ¬ ((!t.plain && decide (es.size > 1)) = true)
      rw [decide_eq_false (by lia), Bool.and_false]; exact Bool.false_ne_true)) (fun _ => ?_)
    refine wpAny_bind ?_
    show wpAny _ _ (if (!t.led && !es.isEmpty) = true then unsupported "set:maker-not-led" else pure ()) _ _ s
    rw [if_neg (by rw [g3]; exact Bool.false_ne_true)]
    refine wpAny_pure (wpAny_pure ?_)
    have hpz : t.place.size = es.size := by
      simp only [SetTable.fits, Bool.and_eq_true, beq_iff_eq] at hf; exact hf.1
    rcases Nat.lt_or_ge 0 es.size with h1 | h0
    · have hz : es.size = 1 := by lia
      have hk := h (t.place.getD 0 0 + 1)
      rw [below1 t (hpz.trans hz)]
      rcases Nat.lt_or_ge i 1 with i1 | i1
      · obtain rfl : i = 0 := by lia
        have k0 : k = 0 := by simpa using g5
        subst k0
        have e1 : vs[0]? = some (es[0]'(by lia)).2 := by rw [g4]; simp [h1]
        have e2 : es[0]? = some (es[0]'(by lia)) := by simp [h1]
        have e3 : t.place[0]? = some (t.place.getD 0 0) := by
          have : 0 < t.place.size := by lia
          simp [this, Array.getD]
        rw [if_neg (Nat.not_lt_zero _)]
        rw [e1] at hk
        rw [e2, e3]
        exact hk (.inr (.inr ⟨g1, g2, g3, g4, by simp⟩))
      · obtain rfl : i = 1 := by lia
        have k0 : k = t.place.getD 0 0 + 1 := by
          have : (k : Int) = (t.place.getD 0 0 : Int) + 1 := by simpa using g5
          lia
        have e1 : vs[1]? = none := by rw [g4]; simp [hz]
        rw [k0, if_pos (Nat.lt_succ_self _)]
        rw [e1] at hk
        have e2 : es[1]? = none := by simp [hz]
        rw [e2]
        exact hk trivial
    · have hz : es.size = 0 := by lia
      have e1 : vs[i]? = none := by rw [g4]; simp [hz]
      have hk := h 0
      rw [below0 t (hpz.trans hz)]
      rw [e1] at hk
      have e2 : es[0]? = none := by simp [hz]
      rw [e2]
      exact hk trivial
theorem SGo.at {h h' : Heap} (k : ∀ b ∈ X, ∀ o, h.get? b = some o → h'.get? b = some o) (g : SGo w X h a es ep t vs F i) : SGo w X h' a es ep t vs F i := by
  rcases g with g | ⟨tp, ps, g1, g2, gl, ⟨ot, e, r⟩, g3⟩ | g
  · exact .inl g
  · exact .inr (.inl ⟨tp, ps, g1, g2, gl, ⟨ot, k _ g2 _ e, r⟩, g3⟩)
  · exact .inr (.inr g)
/-- the walk's state -/
noncomputable def SSt (w : World) (X : List Addr) (it a : Addr) (o : Obj) (es : Array (Int × Value)) (ep : Nat) (t : SetTable) (vs : List Value) (i : Nat) (s : Shared) : Prop :=
  ∃ F, s.heap.get? it = some (setItO F a i es.size ep) ∧ s.heap.get? a = some o ∧ SGo w X s.heap a es ep t vs F i
theorem si_go (ho : s.heap.get? a = some o) (hd : o.data = .set es ep t) (hf : t.fits es.size = true) (hvs : vs.length = es.size) (hled : t.led = (!w.params.followText "set-order")) (hpl : 0 < es.size → t.plain = false)
    (hit : s.heap.get? it = some (setItO F a i es.size ep)) (g : SGo w X s.heap a es ep t vs F i) (hi : i ≤ es.size) (hX : it ∉ X) (ha : a ≠ it) (hh : A.handled = none) {Q : Option Value → Shared → Prop}
    (h : ∀ h', (∀ b o, b ∉ [it] → s.heap.get? b = some o → h'.get? b = some o) → (vs[i]?.isSome = true → SSt w X it a o es ep t vs (i + 1) { s with heap := h' }) → Q vs[i]? { s with heap := h' }) : wpAny (model prog w) A (pyNext (.ref it)) Q E s := by
  have hT : s.TypeIs (.ref it) "set_iterator" := ⟨_, hit, rfl⟩
  unfold pyNext
  refine wpAny_bind (wpAny_attempt (wpAny_callSpecial?_slot (name := Str.ofString "__next__") hT si_slot (wpAny_call_entry si_slot hT si_entry ?_ (si_args _))))
  show wpAny _ _ (fieldsOf (.ref it) >>= _) _ _ s
  refine wpAny_bind (wpAny_fieldsOf hit rfl ?_)
  show wpAny _ _ (setEntries a >>= _) _ _ s
  refine wpAny_bind (wpAny_setEntries_of ho hd hf ?_)
  rw [if_neg (by simp)]
  have stop : ∀ {A' : Around} {R : PySem.Fin → Shared → Prop} {E' : Value → Shared → Prop} {h₁ : Heap} {vs' : Array Value}, A'.handled = none → h₁.get? it = some { cls := .type "set_iterator", dict := none, data := .fields vs', slots := #[] } → 2 < vs'.size → (∀ b o, b ∉ [it] → s.heap.get? b = some o → h₁.get? b = some o) →
      (∀ h' x, (∀ b o, b ∉ [it] → s.heap.get? b = some o → h'.get? b = some o) → (∃ o, h'.get? x = some o ∧ o.cls = .type "StopIteration") → E' (.ref x) { s with heap := h' }) → wpAny (model prog w) A' (do setField (.ref it) 2 .none; raiseNew (← newExc (.type "StopIteration") [])) R E' { s with heap := h₁ } := by
    intro A' R E' h₁ vs' hA e hz k hE
    refine wpAny_bind (wpAny_setField_rec e hz fun h₂ e₂ hs => ?_)
    replace hs : Heap.SameBut it h₁ h₂ := hs
    refine wpAny_bind ?_
    simp only [newExc, newTuple]
    refine wpAny_bind (wpAny_newObj_type ?_ (by size_fits))
    refine wpAny_bind (m := firstArgMember _ _) (wpAny_of_eq (a := Value.none) (by first | rfl | (simp only [firstArgMember]; rfl)) ?_)
    refine wpAny_newObj_type ?_ (by size_fits)
    simp only [raiseNew]
    refine wpAny_bind (wpAny_handled ?_)
    rw [hA]
    refine wpAny_bind (wpAny_pure (wpAny_throw ?_))
    refine hE _ _ (fun b o nb q => Heap.get?_push_of_some _ (Heap.get?_push_of_some _ ((hs.2 b (one_ne.mp nb)).trans (k b o nb q)))) ⟨_, Heap.get?_push_size _ rfl, rfl⟩
  have fin : ∀ {h' : Heap} {x : Addr}, (∀ b o, b ∉ [it] → s.heap.get? b = some o → h'.get? b = some o) → (∃ o, h'.get? x = some o ∧ o.cls = .type "StopIteration") → vs[i]? = none →
      wpAny (model prog w) A (do if ← isInstance (.ref x) (.type "StopIteration") then pure none else throw (.ref x)) Q E { s with heap := h' } := fun {h' x} k ⟨ox, ex, hc⟩ hv => by
    refine wpAny_bind (wpAny_isInstance (T := "StopIteration") (b := true) ⟨ox, ex, hc⟩ isSubtype_stop ?_)
    refine wpAny_pure ?_
    have := h h' k (by rw [hv]; intro q; cases q)
    rw [hv] at this; exact this
  have keepX : ∀ {h' : Heap}, (∀ b o, b ∉ [it] → s.heap.get? b = some o → h'.get? b = some o) → ∀ b ∈ X, ∀ o, s.heap.get? b = some o → h'.get? b = some o := fun k b hb o e => k b o (one_ne.mpr fun q => hX (q ▸ hb)) e
  rcases id g with ⟨_, gF, _⟩ | ⟨tp, ps, gF, gX, gl, ⟨ot, et, ct, nt, dt⟩, gv⟩ | ⟨_, _, _, _, gF⟩
  rotate_left
  · subst gF
    show wpAny _ _ (seqItems? (.ref tp) >>= _) _ _ s
    refine wpAny_bind (wpAny_seqItems et dt ?_)
    dsimp only
    simp only [Int.toNat_natCast]
    cases q : ps[i]? with
    | none =>
      have hv : vs[i]? = none := by rw [gv, List.getElem?_map, q]; rfl
      rw [show (ps.map fun (j : Nat) => Value.int j 0).toArray[i]? = none by simp [q]]
      refine wpAny_bind (wpAny_setField_rec hit (by simp) fun h₂ e₂ hs => ?_)
      replace hs : Heap.SameBut it s.heap h₂ := hs
      exact stop (by first | exact hh | rfl) e₂ (by simp) (fun b o nb q => (hs.2 b (one_ne.mp nb)).trans q) fun h' x k hx => fin k hx hv
    | some j =>
      have hv : vs[i]? = some (es.getD j (0, .none)).2 := by rw [gv, List.getElem?_map, q]; rfl
      rw [show (ps.map fun (j : Nat) => Value.int j 0).toArray[i]? = some (.int j 0) by simp [q]]
      dsimp only
      have hj : j < es.size := gl j (List.mem_of_getElem? q)
      refine wpAny_bind ?_
      unfold setNextDrawn
      refine wpAny_bind (wpAny_setState_of ho hd hf ?_)
      dsimp only
      rw [if_neg (by simp)]
      simp only [Int.toNat_natCast]
      have ej : es[j]? = some (es.getD j (0, .none)) := by simp [hj, Array.getD]
      rw [ej]
      refine wpAny_pure ?_
      refine wpAny_bind (wpAny_setField_rec hit (by simp) fun h₂ e₂ hs => ?_)
      replace hs : Heap.SameBut it s.heap h₂ := hs
      refine wpAny_pure ⟨_, rfl, wpAny_pure ?_⟩
      have k : ∀ b o, b ∉ [it] → s.heap.get? b = some o → h₂.get? b = some o := fun b o nb q => (hs.2 b (one_ne.mp nb)).trans q
      have := h h₂ k (fun _ => ⟨.ref tp, by simpa [rawInt, setItO] using e₂, (hs.2 a ha).trans ho, (g.at (keepX k)).elim (fun z => absurd z.2.1 (by intro q; cases q)) fun z => z.elim (fun ⟨tp', ps', z1, z2⟩ => .inr (.inl ⟨tp', ps', z1, z2⟩)) fun z => absurd z.2.2.2.2 (by intro q; cases q)⟩)
      rw [hv] at this; exact this
  all_goals
    obtain ⟨k, rfl⟩ : ∃ k : Nat, F = .int k 0 := by first | exact ⟨0, gF⟩ | exact ⟨if i = 0 then 0 else t.place.getD 0 0 + 1, gF.trans (by split <;> rfl)⟩
    refine wpAny_bind (m := setNext a _ _ _) ?_
    simp only [Int.toNat_natCast]
    refine si_next (X := X) ho hd hf hvs hled hpl g hi fun k' hk => ?_
    cases q : vs[i]? with
    | none =>
      dsimp only [Option.map]
      exact stop (by first | exact hh | rfl) hit (by simp) (fun b o nb q => q) fun h' x k hx => fin k hx q
    | some v =>
      rw [q] at hk
      dsimp only [Option.map]
      refine wpAny_bind (wpAny_setField_rec hit (by simp) fun h₁ e₁ hs₁ => ?_)
      replace hs₁ : Heap.SameBut it s.heap h₁ := hs₁
      refine wpAny_bind (wpAny_setField_rec e₁ (by simp) fun h₂ e₂ hs₂ => ?_)
      replace hs₂ : Heap.SameBut it h₁ h₂ := hs₂
      refine wpAny_pure ⟨_, rfl, wpAny_pure ?_⟩
      have kk : ∀ b o, b ∉ [it] → s.heap.get? b = some o → h₂.get? b = some o := fun b o nb q => (hs₂.2 b (one_ne.mp nb)).trans ((hs₁.2 b (one_ne.mp nb)).trans q)
      have := h h₂ kk (fun _ => ⟨.int k' 0, by simpa [rawInt, setItO] using e₂, kk a _ (one_ne.mpr ha) ho, SGo.at (keepX kk) hk⟩)
      rw [q] at this; exact this
theorem si_slot_iter : Slot "set_iterator" "__iter__" "set_iterator.__iter__" :=
  .of (owner := "set_iterator") (n := "__iter__") (by rw [typeLookup_type, builtinLookup_eq_fast]; kernel_rfl) (by decide +kernel) (by decide +kernel) (by decide +kernel)
    (by first | exact .inl (by decide +kernel) | exact .inr (by decide +kernel)) (by rw [isSubtype_type]; kernel_rfl)
theorem si_entry_self : entryFor table "set_iterator.__iter__" = some Builtin.«dict_keyiterator.__iter__» :=
  entryFor_alias (id' := "dict_keyiterator.__iter__") (by kernel_rfl) rfl (by decide +kernel) (by kernel_rfl)
theorem si_args_iter (a : Value) : argsOk "set_iterator.__iter__" ⟨[a], []⟩ := by
  unfold argsOk; rw [signature?_of (id := "set_iterator.__iter__") (n := ['_', '_', 'r', 'e', 't', 'i', '_', '_']) (o := ['r', 'o', 't', 'a', 'r', 'e', 't', 'i', '_', 't', 'e', 's']) (by kernel_rfl) si_owner]; kernel_rfl
theorem si_self {Q : Value → Shared → Prop} (e : s.heap.get? it = some (setItO F a i es.size ep)) (h : Q (.ref it) s) : wpAny (model prog w) A (pyIter (.ref it)) Q E s := by
  have hT : s.TypeIs (.ref it) "set_iterator" := ⟨_, e, rfl⟩
  refine wpAny_pyIter_slot hT si_slot_iter (wpAny_call_entry si_slot_iter hT si_entry_self ?_ (si_args_iter _))
  show wpAny _ _ (ret (.ref it)) _ _ s
  exact wpAny_pure ⟨_, rfl, "set_iterator", _, hT, si_slot.lookup, h⟩
/-- the walk as the library tells walks -/
theorem si_walks (hd : o.data = .set es ep t) (hf : t.fits es.size = true) (hvs : vs.length = es.size) (hled : t.led = (!w.params.followText "set-order")) (hpl : 0 < es.size → t.plain = false) (hX : it ∉ X) (ha : a ≠ it) (hh : A.handled = none) :
    WalksS prog w A it (it :: a :: X) [it] (fun x y => y = x) es.size (fun i v => vs[i]? = some v) (SSt w X it a o es ep t vs) where
  sub := fun b hb => by rw [List.mem_singleton.mp hb]; exact List.mem_cons_self
  grefl := fun _ => rfl
  gtrans := fun _ _ _ x y => y.trans x
  frame := fun i s h' tk ⟨F, e1, e2, g⟩ _ k => ⟨F, k _ List.mem_cons_self _ e1, k _ (List.mem_cons_of_mem _ List.mem_cons_self) _ e2, g.at fun b hb o e => k b (List.mem_cons_of_mem _ (List.mem_cons_of_mem _ hb)) o e⟩
  item := fun i s Q E hi ⟨F, e1, e2, g⟩ hQ => by
    refine si_go e2 hd hf hvs hled hpl e1 g (Nat.le_of_lt hi) hX ha hh fun h' k st => ?_
    have q : vs[i]? = some (vs[i]'(by lia)) := by simp
    rw [q] at st ⊢
    exact hQ _ _ q (st rfl) ⟨k, rfl, rfl, rfl, Nat.le_refl _⟩
  done := fun s Q E ⟨F, e1, e2, g⟩ hQ => by
    refine si_go e2 hd hf hvs hled hpl e1 g (Nat.le_refl _) hX ha hh fun h' k st => ?_
    have q : vs[es.size]? = none := by simp [hvs]
    rw [q]
    exact hQ _ ⟨k, rfl, rfl, rfl, Nat.le_refl _⟩
  self := fun i s Q E ⟨F, e1, e2, g⟩ hQ => si_self e1 hQ
theorem si_hint {Q : Bool → Shared → Prop} (hT : s.TypeIs (.ref a) "set") (h : Q false s) : wpAny (model prog w) A (Builtin.List.listLengthHint (.ref a)) Q E s := by
  unfold Builtin.List.listLengthHint
  refine wpAny_bind (wpAny_specialOf hT PySem.F.slot_set_len.lookup ?_)
  generalize hid : ("set.__len__" : String) = id0
  wp_delta
  rw [show splitId id0 = some ("set", "__len__") from by subst hid; decide +kernel]
  subst hid
  refine wpAny_bind (wpAny_isInstance (T := "set") (b := true) hT (by rw [isSubtype_type]; kernel_rfl) ?_)
  refine wpAny_ite_split (fun q => absurd q (by decide)) (fun _ => ?_)
  refine wpAny_ite_split (fun _ => ?_) (fun q => absurd (by decide +kernel) q)
  exact wpAny_bind (wpAny_typeOf hT (wpAny_pure h))
theorem si_iter (hex : o.ExactSet) (ho : s.heap.get? a = some o) (hd : o.data = .set es ep t) (hf : t.fits es.size = true) (hled : t.led = (!w.params.followText "set-order")) (hpl : 0 < es.size → t.plain = false) (hz : es.size ≤ 1000000) {Q : Value → Shared → Prop}
    (h : ∀ it X h' d vs, it ∉ X → a ≠ it → s.heap.get? it = none → (∀ b ∈ X, s.heap.get? b = none) → SSt w X it a o es ep t vs 0 { s with heap := h', drawn := d } → (∀ b o, s.heap.get? b = some o → h'.get? b = some o) → vs.Perm (es.toList.map (·.2)) → Q (.ref it) { s with heap := h', drawn := d }) :
    wpAny (model prog w) A (pyIter (.ref a)) Q E s := by
  have hT : s.TypeIs (.ref a) "set" := ⟨o, ho, hex.1⟩
  refine wpAny_pyIter_slot hT PySem.F.slot_set_iter (wpAny_call_entry PySem.F.slot_set_iter hT si_entry_iter ?_ (PySem.F.args_set_iter_1 _))
  unfold Builtin.«frozenset.__iter__» Builtin.Frozenset.slot0 slotArgs
  simp only [List.isEmpty_nil, Bool.not_true, Bool.false_eq_true, ↓reduceIte, bind_assoc, List.length_nil, bne_self_eq_false]
  unfold Builtin.Frozenset.addrOf Builtin.Frozenset.sizeOf setEpoch
  refine wpAny_bind (wpAny_pure ?_)
  try dsimp only
  refine wpAny_bind (wpAny_pure ?_)
  refine wpAny_bind (wpAny_bind (wpAny_setEntries_of ho hd hf (wpAny_pure ?_)))
  unfold setDrawn setsByText
  refine wpAny_bind (wpAny_bind (wpAny_setState_of ho hd hf ?_))
  dsimp only
  refine wpAny_bind (wpAny_bind (wpAny_askSetting (wpAny_pure (wpAny_pure ?_))))
  have asize : a < s.heap.objs.size := Heap.lt_size ho
  dsimp only
  refine wpAny_ite_split (fun hc => ?_) (fun hc => ?_)
  · have hc' : (!w.params.followText "set-order" && (!t.plain && decide (es.size > 1))) = true := hc
    simp only [Bool.and_eq_true, Bool.not_eq_true', decide_eq_true_eq] at hc'
    refine wpAny_bind (draw_perm _ _ _ _ (by simp) fun ys d hp => ?_)
    have hyl : ys.length = es.size := by rw [hp.length_eq]; simp
    refine wpAny_bind (wpAny_newTuple ?_ (by rw [List.length_map, hyl, sizeLine_eq]; lia))
    refine wpAny_bind (wpAny_bind (wpAny_setState_of (Heap.get?_push_of_some _ ho) hd hf (wpAny_pure ?_)))
    refine wpAny_bind (wpAny_newObj_type (wpAny_pure ⟨_, rfl, "set_iterator", _, ⟨_, Heap.get?_push_size _ rfl, rfl⟩, si_slot.lookup, ?_⟩))
    have hsz : (s.heap.push { cls := Value.type "tuple", data := Data.seq (ys.map fun (i : Nat) => rawInt i).toArray }).objs.size = s.heap.objs.size + 1 := by rw [size_push']
    have kp : ∀ b o, s.heap.get? b = some o → ((s.heap.push { cls := Value.type "tuple", data := Data.seq (ys.map fun (i : Nat) => rawInt i).toArray }).push { cls := .type "set_iterator", data := .fields [Value.ref s.heap.objs.size, rawInt 0, .ref a, rawInt es.size, rawInt ep].toArray }).get? b = some o := fun b o e => Heap.get?_push_of_some _ (Heap.get?_push_of_some _ e)
    have et : ((s.heap.push { cls := Value.type "tuple", data := Data.seq (ys.map fun (i : Nat) => rawInt i).toArray }).push { cls := .type "set_iterator", data := .fields [Value.ref s.heap.objs.size, rawInt 0, .ref a, rawInt es.size, rawInt ep].toArray }).get? s.heap.objs.size = some { cls := Value.type "tuple", data := Data.seq (ys.map fun (i : Nat) => rawInt i).toArray } := Heap.get?_push_of_some _ (Heap.get?_push_size _ rfl)
    have ei : ((s.heap.push { cls := Value.type "tuple", data := Data.seq (ys.map fun (i : Nat) => rawInt i).toArray }).push { cls := .type "set_iterator", data := .fields [Value.ref s.heap.objs.size, rawInt 0, .ref a, rawInt es.size, rawInt ep].toArray }).get? (s.heap.objs.size + 1) = some (setItO (.ref s.heap.objs.size) a 0 es.size ep) := by
      rw [← hsz]; exact Heap.get?_push_size _ rfl
    refine hsz ▸ h (s.heap.objs.size + 1) [s.heap.objs.size] _ d (ys.map fun j => (es.getD j (0, .none)).2) (by simp) (Nat.ne_of_lt (Nat.lt_succ_of_lt asize)) (Heap.get?_none_of_le (Nat.le_succ _)) (fun b hb => by rw [List.mem_singleton.mp hb]; exact Heap.get?_none_of_le (Nat.le_refl _))
      ⟨_, ei, kp a o ho, .inr (.inl ⟨_, ys, rfl, List.mem_singleton.mpr rfl, fun j hj => by have := (hp.mem_iff).mp hj; simpa using this, ⟨_, et, rfl, 0, rfl⟩, rfl⟩)⟩ kp ?_
    refine (hp.map _).trans (List.Perm.of_eq ?_)
    apply List.ext_getElem
    · simp
    · intro i h1 h2
      have hi : i < es.size := by simpa using h1
      simp [Array.getD, hi]
  · have hc' : ¬ ((!w.params.followText "set-order" && (!t.plain && decide (es.size > 1))) = true) := hc
    refine wpAny_bind (wpAny_pure ?_)
    refine wpAny_bind (wpAny_bind (wpAny_setState_of ho hd hf (wpAny_pure ?_)))
    refine wpAny_bind (wpAny_newObj_type (wpAny_pure ⟨_, rfl, "set_iterator", _, ⟨_, Heap.get?_push_size _ rfl, rfl⟩, si_slot.lookup, ?_⟩))
    have kp : ∀ b o, s.heap.get? b = some o → (s.heap.push { cls := .type "set_iterator", data := .fields [rawInt 0, rawInt 0, Value.ref a, rawInt es.size, rawInt ep].toArray }).get? b = some o := fun b o e => Heap.get?_push_of_some _ e
    have ei : (s.heap.push { cls := .type "set_iterator", data := .fields [rawInt 0, rawInt 0, Value.ref a, rawInt es.size, rawInt ep].toArray }).get? s.heap.objs.size = some (setItO (.int 0 0) a 0 es.size ep) := Heap.get?_push_size _ rfl
    cases hT : w.params.followText "set-order" with
    | true => exact h s.heap.objs.size [] _ s.drawn _ (by simp) (Nat.ne_of_lt asize) (Heap.get?_none_of_le (Nat.le_refl _)) (fun b hb => nomatch hb) ⟨_, ei, kp a o ho, .inl ⟨hT, rfl, rfl⟩⟩ kp ((pick_perm _ _).map _)
    | false =>
      rw [hT] at hc' hled
      have h1 : es.size ≤ 1 := by
        refine Classical.byContradiction fun q => hc' ?_
        rw [hpl (by lia), decide_eq_true (by lia)]; rfl
      exact h s.heap.objs.size [] _ s.drawn _ (by simp) (Nat.ne_of_lt asize) (Heap.get?_none_of_le (Nat.le_refl _)) (fun b hb => nomatch hb) ⟨_, ei, kp a o ho, .inr (.inr ⟨hT, h1, hled, rfl, rfl⟩)⟩ kp (.refl _)
theorem si_extend {R : Result → Shared → Prop} (hex : o.ExactSet) (ho : s.heap.get? a = some o) (hd : o.data = .set es ep t) (hf : t.fits es.size = true) (hled : t.led = (!w.params.followText "set-order")) (hpl : 0 < es.size → t.plain = false) (hz : es.size ≤ 1000000) (hh : A.handled = none)
    (S : Addr) (hSa : S ≠ a) (res : Value) (hS : s.heap.get? S = some { cls := .type "list", data := .seq #[] 0 })
    (hR : ∀ h' tk d acc' c', (∀ b o, b ≠ S → s.heap.get? b = some o → h'.get? b = some o) → h'.get? S = some { cls := .type "list", dict := none, data := .seq acc' c', slots := #[] } → acc'.toList.Perm (es.toList.map (·.2)) → R (.ok (.ret res)) { s with heap := h', toks := tk, drawn := d }) :
    wpAny (model prog w) A.in1 (Builtin.List.listExtendWith (.ref S) (.ref a) res)
      (fun fin s' => match fin with | .done f => R (.ok f) s' | .again c' => c'.quiet = true ∧ codeAny (model prog w) A c' R s') (fun e s' => R (.error e) s') s := by
  have hT : s.TypeIs (.ref a) "set" := ⟨o, ho, hex.1⟩
  have sS : S < s.heap.objs.size := Heap.lt_size hS
  unfold Builtin.List.listExtendWith
  refine wpAny_bind (wpAny_typeOf (T := "set") hT ?_)
  have h1 : Builtin.List.listSameRef (.ref S) (.ref a) = false := by simp [Builtin.List.listSameRef, hSa]
  simp only [h1, show (Value.type "set" == Value.type "list") = false by decide, show (Value.type "set" == Value.type "tuple") = false by decide, Bool.or_false, Bool.false_eq_true, if_false]
  refine wpAny_bind (si_iter hex ho hd hf hled hpl hz fun it X h' d vs x1 x2 x3 x4 st kp hp => ?_)
  have hSit : S ≠ it := fun q => by rw [← q, hS] at x3; cases x3
  have hSX : S ∉ X := fun q => by rw [x4 _ q] at hS; cases hS
  have hvs : vs.length = es.size := by rw [hp.length_eq]; simp
  have hSf : S ∉ it :: a :: X := by simp only [List.mem_cons, not_or]; exact ⟨hSit, hSa, hSX⟩
  have W := si_walks (prog := prog) (w := w) (A := A.in1) (it := it) (o := o) (X := X) (vs := vs) hd hf hvs hled hpl x1 x2 hh
  have key : ∀ (h₂ : Heap) (c₁ tk : Nat), SSt w X it a o es ep t vs 0 { s with heap := h₂, toks := tk, drawn := d } → (∀ b o, b ≠ S → s.heap.get? b = some o → h₂.get? b = some o) →
      h₂.get? S = some { cls := .type "list", data := .seq #[] c₁ } → codeAny (model prog w) A (.builtin "list.extend.loop" ⟨[.ref S, .ref it, res], []⟩) R { s with heap := h₂, toks := tk, drawn := d } := by
    intro h₂ c₁ tk hst hk hS₁
    refine codeAny_extend_loopS W (by rw [sizeLine_eq]; lia) S hSf res es.size 0 _ #[] c₁ rfl (Nat.zero_le _) hst hS₁ (ItemsOf.nil _) fun s' acc' c' hm hS' hacc => ?_
    rw [Moved.eq_with hm]
    refine hR s'.heap s'.toks d acc' c' (fun b o hb e => hm.heap b o (fun hmem => ?_) (hk b o hb e)) hS' ?_
    · rcases List.mem_cons.mp hmem with e' | hmem
      · exact hb e'
      · rw [List.mem_singleton.mp hmem] at e; rw [x3] at e; cases e
    · have : acc'.toList = vs := by
        apply List.ext_getElem?
        intro j
        rcases Nat.lt_or_ge j vs.length with hj | hj
        · have ej : acc'[j]? = some (acc'[j]'(by rw [hacc.1]; lia)) := by simp
          rw [Array.getElem?_toList, hacc.2 j _ ej, ej]
        · rw [List.getElem?_eq_none hj, List.getElem?_eq_none (by rw [Array.length_toList, hacc.1]; lia)]
      rw [this]; exact hp
  have hS₁ := kp S _ hS
  refine wpAny_bind (wpAny_holding (si_hint ⟨o, kp a o ho, hex.1⟩ ?_))
  refine wpAny_ite_split (fun _ => ?_) (fun _ => wpAny_pure ⟨plainId_quiet PySem.F.plain_extend_loop _, key _ 0 s.toks st (fun b o _ e => kp b o e) hS₁⟩)
  refine wpAny_bind (wpAny_rule ?_)
  refine wpAny_bind ?_
  show wpAny _ _ (updateSeq S (·.push .none) >>= fun _ => updateSeq S (·.pop)) _ _ _
  refine wpAny_bind (wpAny_updateSeq hS₁ rfl ?_)
  have hS₂ := Heap.get?_update_self (Obj.mapSeq (·.push Value.none)) hS₁ rfl
  refine wpAny_updateSeq (hz := by seq_fits) hS₂ rfl ?_
  have hS₃ := Heap.get?_update_self (Obj.mapSeq (·.pop)) hS₂ rfl
  have oth : ∀ b o, b ≠ S → h'.get? b = some o → ((h'.update S (Obj.mapSeq (·.push Value.none))).update S (Obj.mapSeq (·.pop))).get? b = some o := fun b o hb e => (Heap.get?_update_other _ _ (Ne.symm hb)).trans ((Heap.get?_update_other _ _ (Ne.symm hb)).trans e)
  refine wpAny_pure ⟨plainId_quiet PySem.F.plain_extend_loop _, key _ _ s.toks ?_ (fun b o hb e => oth b o hb (kp b o e)) hS₃⟩
  exact W.frame 0 _ _ _ st (Nat.le_refl _) fun b hb o e => oth b o (fun q => hSf (q ▸ hb)) e
theorem si_collect {R : List Value → Shared → Prop} (hex : o.ExactSet) (ho : s.heap.get? a = some o) (hd : o.data = .set es ep t) (hf : t.fits es.size = true) (hled : t.led = (!w.params.followText "set-order")) (hpl : 0 < es.size → t.plain = false) (hz : es.size ≤ 1000000) (hh : A.handled = none)
    (h : ∀ h' tk d (vs : List Value), (∀ b o, s.heap.get? b = some o → h'.get? b = some o) → vs.Perm (es.toList.map (·.2)) → R vs { s with heap := h', toks := tk, drawn := d }) :
    wpAny (model prog w) A (collect (.ref a)) R E s := by
  have sa : a < s.heap.objs.size := Heap.lt_size ho
  unfold collect
  refine wpAny_bind (wpAny_runValue (codeAny_builtin entry_proto_collect' ?_))
  rw [Around.under_plainId PySem.F.plain_proto_collect _]
  show wpAny _ A.in1 (newList [] >>= fun l => again (.builtin "list.__iadd__" ⟨[l, .ref a], []⟩)) _ _ s
  refine wpAny_bind (wpAny_newObj_type ?_)
  refine wpAny_pure ⟨plainId_quiet PySem.F.plain_list_iadd _, codeAny_builtin entry_list_iadd' ?_⟩
  rw [Around.under_plainId PySem.F.plain_list_iadd _]
  have hS₁ : (s.heap.push { cls := .type "list", data := .seq ([] : List Value).toArray }).get? s.heap.objs.size = some { cls := .type "list", data := .seq #[] } := Heap.get?_push_size _ rfl
  show wpAny _ A.in1 (Builtin.List.listExtendWith (.ref s.heap.objs.size) (.ref a) (.ref s.heap.objs.size)) _ _ _
  have key := si_extend (prog := prog) (A := A) (s := { s with heap := s.heap.push { cls := .type "list", data := .seq ([] : List Value).toArray } })
    (R := fun (q : Result) (s' : Shared) => ∃ (h' : Heap) (tk : Nat) (d : Drawn) (acc' : Array Value) (c' : Nat), q = .ok (.ret (.ref s.heap.objs.size)) ∧ s' = { s with heap := h', toks := tk, drawn := d } ∧
      (∀ b o, s.heap.get? b = some o → h'.get? b = some o) ∧ h'.get? s.heap.objs.size = some { cls := .type "list", dict := none, data := .seq acc' c', slots := #[] } ∧ acc'.toList.Perm (es.toList.map (·.2)))
    hex (Heap.get?_push_of_some _ ho) hd hf hled hpl hz hh s.heap.objs.size (Nat.ne_of_gt sa) (.ref s.heap.objs.size) hS₁
    (fun h' tk d acc' c' hk hS' hacc => ⟨h', tk, d, acc', c', rfl, rfl, fun b o e => hk b o (Nat.ne_of_lt (Heap.lt_size e)) (Heap.get?_push_of_some _ e), hS', hacc⟩)
  refine wpAny_mono key (fun fin s' x => ?_) fun e s' x => ?_
  · cases fin with
    | done f =>
      refine ea5_5 x fun h' tk d acc' c' e yq1 hk hS' hacc => ?_; try clear x; subst yq1
      cases e
      show wpAny _ A (load s.heap.objs.size >>= _) _ _ _
      exact wpAny_bind (wpAny_load hS' (wpAny_pure (h h' tk d _ hk hacc)))
    | again c₁ =>
      refine ⟨x.1, codeAny_mono x.2 fun q s₂ y => ?_⟩
      refine ea5_5 y fun h' tk d acc' c' yq2 yq3 hk hS' hacc => ?_; try clear y; subst yq2; subst yq3
      show wpAny _ A (load s.heap.objs.size >>= _) _ _ _
      exact wpAny_bind (wpAny_load hS' (wpAny_pure (h h' tk d _ hk hacc)))
  · refine ea5_2 x fun _ _ _ _ _ e' _ => ?_; try clear x
    cases e'
end
theorem is_str {prog : Program} {w : World} {k : Str} {v : Value} (h : (PySem.strKind prog w).is k v = true) : ∃ t, v = .str k t := by
  exact Flat.str_inv (kdl_flat_str h)
section
variable {prog : Program} {w : World} {A : Around} {E : Value → Shared → Prop} {s : Shared}
theorem sorted_col {v : Value} {xs : List Str} {Q : Value → Shared → Prop} (hz : xs.length < 64)
    (hcol : ∀ R : List Value → Shared → Prop, (∀ h' tk d vs ss, (∀ b o, s.heap.get? b = some o → h'.get? b = some o) → StrsAre vs ss → ss.Perm xs → R vs { s with heap := h', toks := tk, drawn := d }) → wpAny (model prog w) A.in1 (collect v) R E s)
    (h : ∀ D h' tk d (out : List Value) ss n, s.heap.get? D = none → h'.get? D = some (listOf out.toArray n) → (∀ b o, s.heap.get? b = some o → h'.get? b = some o) → StrsAre out ss → ss.Perm xs → Q (.ref D) { s with heap := h', toks := tk, drawn := d }) :
    wpAny (model prog w) A (call (.builtin "sorted") [v]) Q E s := by
  refine Calls.call_function_entry kind_sorted plain_sorted entry_sorted (args_sorted1 _) ?_
  unfold Builtin.«sorted»
  refine wpAny_bind (m := checkCount "sorted" 1 1 _) (wpAny_pure ?_)
  refine wpAny_bind (hcol _ fun h' tk d vs ss kp hS hp => ?_)
  have hl : vs.length < 64 := by rw [hS.length, hp.length_eq]; exact hz
  refine wpAny_bind (wpAny_newList ?_ (by rw [sizeLine_eq]; lia))
  have hoL : (h'.push { cls := .type "list", data := .seq vs.toArray }).get? h'.objs.size = some (seqObj "list" vs.toArray 0) := Heap.get?_push_size _ rfl
  have lt : ∀ b o, s.heap.get? b = some o → b < h'.objs.size := fun b o e => Heap.lt_size (kp b o e)
  refine wpAny_bind (wpAny_holding (wpAny_call_entry slot_list_sort ⟨_, hoL, rfl⟩ entry_list_sort (list_sort_treeK strKind_oneLt hoL hS.keysOf (fun v₁ v₂ rest e => keyKind_strs (by rw [← e]; exact hS)) hl fun st' hp' hs => ⟨_, rfl, ?_⟩) (args_list_sort _)))
  refine ea1_3 (sorted_out_str hS hp' hs) fun ss' h1 h2 h3 => ?_
  refine ea1_1 (sortedHeap_at (out := (arrOf st').map (·.2)) hoL) fun e he => ?_
  refine wpAny_pure ⟨_, rfl, h h'.objs.size _ tk d ((arrOf st').map (·.2)).toList ss' e ?_ (by rw [Array.toArray_toList]; exact he) (fun b o q => ?_) h1 (h2.trans hp)⟩
  · cases q : s.heap.get? h'.objs.size with
    | none => rfl
    | some o => exact absurd (lt _ _ q) (Nat.lt_irrefl _)
  · rw [sortedHeap_old (Nat.ne_of_lt (lt b o q)) (by rw [size_push']; exact Nat.lt_succ_of_lt (lt b o q)), Heap.get?_push_ne _ _ _ (Nat.ne_of_lt (lt b o q))]
    exact kp b o q
end
section
variable {c : Cx} {f : Fx} {env : Env} {ρ : Locals} {η η' : Store} {Φ : AV → Store → Prop} {Ψ : Exc} {n : Nat} {s : Shared} {E : Value → Shared → Prop}
theorem rv_strs {h : Heap} {vs : List Value} {ss : List Str} (r : StrsAre vs ss) : RvAll h vs (ss.map .str) :=
  r.rec (motive := fun vs ss _ => RvAll h vs (ss.map .str)) .nil fun x t {_ _} _ i => .cons (.str x t) i
/-- all stays, tokens and draws aside -/
theorem Rel.keepsD (R : Rel c f env ρ η s) {h' : Heap} {n : Nat} {d : Drawn} (k : ∀ b o, s.heap.get? b = some o → h'.get? b = some o) : Rel c f env ρ η { s with heap := h', toks := n, drawn := d } :=
  let R' := R.keeps (n := n) k
  ⟨R'.fr, R'.ns, R'.names, R'.objs, R'.nd, R'.cells, R'.frs⟩
theorem Post.newListD {D : Addr} {out : List Value} {l : List AV} {h' : Heap} {tk m : Nat} {d : Drawn} (R : Rel c f env ρ η s) (e : s.heap.get? D = none) (e' : h'.get? D = some (listOf out.toArray m)) (k : ∀ b o, s.heap.get? b = some o → h'.get? b = some o) (r : RvAll h' out l)
    (h : Φ (.val (.ref D)) ((D, .list l) :: η)) : Post c f env ρ η s Φ (.ref D) { s with heap := h', toks := tk, drawn := d } := by
  have R₁ := R.alloc (n := tk) (ao := .list l) k e e' ⟨out, m, rfl, r⟩
  have t₁ := Stp.alloc (f := f) (env := env) (η := η) (s := s) (n := tk) (ao := .list l) k e
  exact ⟨_, _, ⟨R₁.fr, R₁.ns, R₁.names, R₁.objs, R₁.nd, R₁.cells, R₁.frs⟩, ⟨⟨.of_keep k, _, _, _, rfl⟩, t₁.kp, t₁.dom, t₁.ex⟩, .val _, h⟩
theorem strs_of (l : List (Int × Value)) : ElemsOf (PySem.strKind c.prog c.w) l → ∃ ss : List Str, StrsAre (l.map (·.2)) ss ∧ ∀ k, k ∈ ss ↔ ∃ e ∈ l, (PySem.strKind c.prog c.w).is k e.2 = true := by
  induction l with
  | nil => exact fun _ => ⟨[], .nil, by simp⟩
  | cons e r ih =>
    intro h
    refine ea1_2 (ih fun e' h' => h e' (List.mem_cons_of_mem _ h')) fun ss a b => ?_
    refine ea0_2 (h e List.mem_cons_self) fun zq1 _ => ?_; refine ea1_2 zq1 fun k hk _ => ?_; clear zq1
    refine ea1_1 (is_str hk) fun t ht => ?_
    refine ⟨k :: ss, by rw [List.map_cons, ht]; exact .cons k t a, fun k' => ?_⟩
    rw [List.mem_cons, b k']
    constructor
    · rintro (rfl | ⟨e', m, q⟩)
      · exact ⟨e, List.mem_cons_self, hk⟩
      · exact ⟨e', List.mem_cons_of_mem _ m, q⟩
    · rintro ⟨e', m, q⟩
      rcases List.mem_cons.mp m with rfl | m
      · refine ea1_1 (is_str q) fun t' ht' => ?_
        rw [ht] at ht'; cases ht'; exact .inl rfl
      · exact .inr ⟨e', m, q⟩
theorem perm_strs {vs ws : List Value} {ss : List Str} (p : vs.Perm ws) (h : StrsAre ws ss) : ∃ ss', StrsAre vs ss' ∧ ss'.Perm ss := by
  have h1 := strsAre_map vs fun v hv => h.all v (p.mem_iff.mp hv)
  refine ⟨_, h1, ?_⟩
  rw [← h.strs]; exact p.map _
/-- «sorted(set of texts)» -/
theorem Op.sortedS {D : Addr} {xs : List Str} {m : Nat} (hm : (D, .set xs m) ∈ η) (hz : m < 64) (h : ∀ L (ys : List Str), (∀ k, k ∈ ys ↔ k ∈ xs) → ys.length = m → Φ (.val (.ref L)) ((L, .list (ys.map .str)) :: η)) : Op c f env (callT (.builtin "sorted")) [.val (.ref D)] ρ η Φ Ψ := fun vs s E r R _ => by
  (apply RvAll.e1 r; intro _ r)
  first | apply Rv.eVal r | (apply Rv.eInt r; intro _) | (apply Rv.eStr r; intro _) | apply Rv.eBool r | cases r
  obtain ⟨o, e, _, _, _, es, ep, t, hex, hd, hel, hmem, hb, hf, hn, hled, hpl⟩ := R.objs _ _ hm
  refine ea1_2 (strs_of es.toList hel) fun ss a b => ?_
  have hsl : ss.length = m := by rw [← a.length, List.length_map, Array.length_toList, hn]
  refine sorted_col (xs := ss) (by lia) (fun Rr hR => si_collect hex e hd hf hled hpl (by rw [hn]; lia) rfl fun h' tk d vs kp hp => ?_) fun L h' tk d out ss' k e1 e2 kp hS hp => ?_
  · refine ea1_2 (perm_strs hp a) fun ss' h1 h2 => ?_
    exact hR h' tk d vs ss' kp h1 h2
  · refine Post.newListD R e1 e2 kp (rv_strs hS) (h L ss' (fun k => ?_) (by rw [hp.length_eq, hsl]))
    rw [hp.mem_iff, b k, ← hmem k]; simp
theorem keys_strs {vs : List Value} : ∀ {kvs : List (Str × Value)}, vs.length = kvs.length → (∀ (j : Nat) (v : Value), vs[j]? = some v → ∃ (k : Str) (x : Value), kvs[j]? = some (k, x) ∧ (PySem.strKind c.prog c.w).is k v = true) → StrsAre vs (kvs.map (·.1)) := by
  induction vs with
  | nil => intro kvs hl _; rw [List.eq_nil_of_length_eq_zero hl.symm]; exact .nil
  | cons v vs ih =>
    intro kvs hl h
    refine ea2_2 (lenS hl.symm) fun p r e hr => ?_
    subst e
    refine ea2_2 (h 0 v rfl) fun k x e q => ?_
    refine ea1_1 (is_str q) fun t yq2 => ?_; subst yq2
    rw [List.map_cons, Option.some.inj e]
    exact .cons k t (ih hr.symm fun j u hu => h (j + 1) u hu)
/-- «sorted(dict)» -/
theorem Op.sortedD {D : Addr} {l : List (Str × AV)} (hm : (D, .dict l) ∈ η) (lo : (D == sysModules) = false) (hz : l.length < 64) (h : ∀ L (ys : List Str), ys.Perm (l.map (·.1)) → Φ (.val (.ref L)) ((L, .list (ys.map .str)) :: η)) : Op c f env (callT (.builtin "sorted")) [.val (.ref D)] ρ η Φ Ψ := fun vs s E r R _ => by
  (apply RvAll.e1 r; intro _ r)
  first | apply Rv.eVal r | (apply Rv.eInt r; intro _) | (apply Rv.eStr r; intro _) | apply Rv.eBool r | cases r
  refine ea1_2 (R.dictAt hm) fun kvs hD rk => ?_
  refine ea1_1 (hD.dictAt) fun ep hat => ?_
  have hkl : kvs.length = l.length := by rw [← List.length_map (·.1), rk.keys, List.length_map]
  refine sorted_col (xs := l.map (·.1)) (by rw [List.length_map]; exact hz) (fun Rr hR => kdu_collect (kdl_dict (knd := PySem.strKind c.prog c.w) (kvs := kvs) (ep := ep) lo) rfl hat (by rw [sizeLine_eq]; lia) fun h' tk acc kp hacc => ?_) fun L h' tk d out ss' k e1 e2 kp hS hp => ?_
  · refine hR h' tk s.drawn _ (kvs.map (·.1)) kp (keys_strs (c := c) (by rw [Array.length_toList]; exact hacc.1) fun j v e => hacc.2 j v (by rw [← Array.getElem?_toList]; exact e)) (by rw [rk.keys])
  · exact Post.newListD R e1 e2 kp (rv_strs hS) (h L ss' hp)
end
theorem lk_list_keys : typeLookup (.type "list") "keys" = pure none := by rw [typeLookup_type, builtinLookup_eq_fast]; kernel_rfl
theorem lk_list_hook : typeLookup (.type "list") "__getattr__" = pure none := by rw [typeLookup_type, builtinLookup_eq_fast]; kernel_rfl
theorem sub_attr : isSubtype (.type "AttributeError") (.type "AttributeError") = pure true := by rw [isSubtype_type]; kernel_rfl
section
variable {prog : Program} {w : World} {A : Around} {E : Value → Shared → Prop} {s : Shared} {a : Addr} {o : Obj}
theorem miss_find {Q : Builtin.ObjectAttr.Found → Shared → Prop} (hx : s.heap.get? a = some o) (hc : o.cls = .type "list") (hd : o.dict = none) (hs : ∃ vs n, o.data = .seq vs n) (h : Q .missing s) :
    wpAny (model prog w) A (Builtin.ObjectAttr.find (.ref a) (.type "list") "keys") Q E s := by
  obtain ⟨vs, n, hs⟩ := hs
  obtain ⟨hp, g, d, tk, os⟩ := s
  obtain ⟨cl, dd, da, sl⟩ := o
  simp only at hc hd hs
  subst hc hd hs
  have f1 := lk_list_keys
  have hT : (⟨hp, g, d, tk, os⟩ : Shared).TypeIs (.ref a) "list" := ⟨_, hx, rfl⟩
  unfold Builtin.ObjectAttr.find
  repeat (any_goals (first | assumption | wp_step))
theorem miss_raise {Q : Fin → Shared → Prop} (hh : A.handled = none) (hT : s.TypeIs (.ref a) "list") (h : ∀ e h' tk, (∀ b o, s.heap.get? b = some o → h'.get? b = some o) → (⟨h', s.gens, s.drawn, tk, s.os⟩ : Shared).TypeIs (.ref e) "AttributeError" → E (.ref e) { s with heap := h', toks := tk }) :
    wpAny (model prog w) A (Builtin.ObjectAttr.noSuchAttribute (.ref a) "keys") Q E s := by
  unfold Builtin.ObjectAttr.noSuchAttribute
  refine wpAny_bind ?_
  repeat (any_goals (first | assumption | wp_step))
  have hm : (Str.ofString (toString "'" ++ toString ((Manifest.find? "list").elim "list" fun x => x.tpName) ++ toString "' object has no attribute '") ++ Str.ofString "keys" ++ Str.ofString "'").length ≤ sizeLine := by rw [sizeLine_eq]; exact Nat.le_of_ble_eq_true (by kernel_rfl)
  generalize Str.ofString (toString "'" ++ toString ((Manifest.find? "list").elim "list" fun x => x.tpName) ++ toString "' object has no attribute '") ++ Str.ofString "keys" ++ Str.ofString "'" = msg at hm
  clear hT
  obtain ⟨hp, g, d, tk, os⟩ := s
  simp only at h
  unfold raiseAttrError
  refine wpAny_bind ?_
  refine wpAny_mkStr ?_ hm
  refine wpAny_bind ?_
  simp only [newExc, newTuple]
  refine wpAny_bind (wpAny_newObj_type ?_ (by size_fits))
  refine wpAny_bind (m := firstArgMember _ _) (wpAny_of_eq (a := Value.none) (by first | rfl | (simp only [firstArgMember]; rfl)) ?_)
  refine wpAny_newObj_type ?_ (by size_fits)
  refine wpAny_bind (wpAny_mkText ?_)
  simp only
  generalize hE : Heap.push (Heap.push hp _) _ = h₂
  have k₂ : ∀ b o, hp.get? b = some o → h₂.get? b = some o := fun b o e => by rw [← hE]; exact Heap.get?_push_of_some _ (Heap.get?_push_of_some _ e)
  have n₂ : hp.get? (hp.push { cls := .type "tuple", data := .seq #[.str msg tk] }).objs.size = none := Heap.get?_none_of_le (by rw [Heap.size_push]; lia)
  have e₂ : h₂.get? (hp.push { cls := .type "tuple", data := .seq #[.str msg tk] }).objs.size = some { cls := .type "AttributeError", data := .fields #[.ref hp.objs.size, .none, .none, .none, .bool false, .none, rawInt 0, rawInt 0] } := by rw [← hE]; exact Heap.get?_push_size _ rfl
  generalize (hp.push { cls := .type "tuple", data := .seq #[.str msg tk] }).objs.size = e at *
  clear hE
  have hT : ∀ tk, (⟨h₂, g, d, tk, os⟩ : Shared).TypeIs (.ref e) "AttributeError" := fun _ => ⟨_, e₂, rfl⟩
  refine wpAny_bind ?_
  unfold noteAttr
  refine wpAny_bind ?_
  unfold lacksNameAndObj
  refine wpAny_bind (wpAny_isInstance (hT _) sub_attr ?_)
  have f1 := sub_attr
  have hT1 := hT (tk + 1 + 1)
  repeat (any_goals (first | assumption | wp_step))
  simp only [raiseNew]
  refine wpAny_bind (wpAny_handled ?_)
  rw [hh]
  refine wpAny_bind (wpAny_pure (wpAny_throw ?_))
  refine h e _ _ (fun b o q => ?_) ⟨_, Heap.get?_update_self _ e₂ rfl, rfl⟩
  have ne : b ≠ e := fun z => by rw [z, n₂] at q; cases q
  rw [Heap.get?_update_other _ _ (Ne.symm ne)]; exact k₂ b o q
noncomputable abbrev MissE (s : Shared) (E : Value → Shared → Prop) : Prop := ∀ e h' tk, (∀ b o, s.heap.get? b = some o → h'.get? b = some o) → (⟨h', s.gens, s.drawn, tk, s.os⟩ : Shared).TypeIs (.ref e) "AttributeError" → E (.ref e) { s with heap := h', toks := tk }
theorem miss_entry {tk : Tok} {Q : Fin → Shared → Prop} (hh : A.handled = none) (hx : s.heap.get? a = some o) (hc : o.cls = .type "list") (hd : o.dict = none) (hs : ∃ vs n, o.data = .seq vs n) (h : MissE s E) :
    wpAny (model prog w) A (Builtin.«object.__getattribute__» ⟨[.ref a, .str "keys" tk], []⟩) Q E s := by
  have hT : s.TypeIs (.ref a) "list" := ⟨_, hx, hc⟩
  unfold Builtin.«object.__getattribute__»
  refine wpAny_bind (wpAny_pure ?_)
  refine wpAny_bind (m := Builtin.ObjectAttr.attrName _) (wpAny_pure ?_)
  refine wpAny_bind (wpAny_typeOf hT ?_)
  refine wpAny_bind (miss_find hx hc hd hs ?_)
  exact miss_raise hh hT h
theorem miss_call {tk : Tok} {R : Result → Shared → Prop} (hh : A.handled = none) (hx : s.heap.get? a = some o) (hc : o.cls = .type "list") (hd : o.dict = none) (hs : ∃ vs n, o.data = .seq vs n) (h : MissE s fun e s' => R (.error e) s') :
    codeAny (model prog w) A (.call (.builtin "list.__getattribute__") ⟨[.ref a, .str "keys" tk], []⟩) R s := by
  obtain ⟨hp, g, d, t, os⟩ := s
  exact codeAny_call_builtin F.slot_list_getattribute.plain F.entry_list_ga (F.slot_list_getattribute.check _ _ _ _ _ _ _ _ (show (⟨hp, g, d, t, os⟩ : Shared).TypeIs (.ref a) "list" from ⟨_, hx, hc⟩) (F.args_list_getattribute_2 _ _) (miss_entry (s := ⟨hp, g, d, t, os⟩) hh hx hc hd hs h))
theorem miss_by {tk : Tok} {Q : Value → Shared → Prop} (hh : A.handled = none) (hx : s.heap.get? a = some o) (hc : o.cls = .type "list") (hd : o.dict = none) (hs : ∃ vs n, o.data = .seq vs n) (h : MissE s E) :
    wpAny (model prog w) A (getAttrBy (.ref a) (.str "keys" tk) false) Q E s := by
  have hT : s.TypeIs (.ref a) "list" := ⟨_, hx, hc⟩
  have f2 := F.slot_list_getattribute.lookup
  have f3 := F.slot_list_getattribute.bind (.ref a)
  have f4 := sub_attr
  have f5 := lk_list_hook
  unfold getAttrBy
  refine wpAny_holding (wpAny_bind (wpAny_typeOf hT (wpAny_bind (wpAny_of_eq f2 ?_))))
  show wpAny _ _ (getAttrByItsOwn _ _ _ _ _ _) _ _ _
  unfold getAttrByItsOwn
  refine wpAny_bind (m := hookBefore _) (wpAny_pure (wpAny_bind (wpAny_attempt (wpAny_holding ?_))))
  show wpAny _ _ (boundAndCalled _ _ _) _ _ _
  unfold boundAndCalled
  refine wpAny_bind (wpAny_of_eq f3 ?_)
  refine wpAny_call (miss_call hh hx hc hd hs fun e h' tk' kp hT' => ?_)
  show wpAny _ _ (getattributeRaised _ _ _ _ _ _ _) _ _ _
  unfold getattributeRaised
  refine wpAny_bind (wpAny_isInstance hT' f4 ?_)
  rw [if_pos rfl]
  show wpAny _ _ ((typeLookup (.type "list") "__getattr__" >>= fun b => _)) _ _ _
  refine wpAny_bind (wpAny_of_eq f5 ?_)
  unfold hookOrError
  unfold attributeErrorLeaves
  simp only [Bool.not_false, if_true]
  exact wpAny_bind (wpAny_throw (h e h' tk' kp hT'))
theorem miss_get {Q : Option Value → Shared → Prop} (hh : A.handled = none) (hx : s.heap.get? a = some o) (hc : o.cls = .type "list") (hd : o.dict = none) (hs : ∃ vs n, o.data = .seq vs n) (h : ∀ h' tk, (∀ b o, s.heap.get? b = some o → h'.get? b = some o) → Q none { s with heap := h', toks := tk }) :
    wpAny (model prog w) A (getAttr? (.ref a) "keys") Q E s := by
  unfold getAttr? getAttrBy?
  refine wpAny_bind (wpAny_mkText (wpAny_bind (wpAny_attempt (miss_by (s := { s with toks := s.toks + 1 }) hh hx hc hd hs fun e h' tk kp hT => ?_))))
  show wpAny _ _ (do if ← isInstance (.ref e) (.type "AttributeError") then pure none else throw (.ref e)) _ _ _
  refine wpAny_bind (wpAny_isInstance hT sub_attr ?_)
  rw [if_pos rfl]
  exact wpAny_pure (h h' tk kp)
end
theorem entry_upd_loop : entryFor table "dict.update.loop" = some Builtin.«dict.update.loop» := entryFor_of_tree (by kernel_rfl)
theorem plain_upd_loop : plainId "dict.update.loop" = true := by decide +kernel
/-- the values are tuples of a text and a value -/
noncomputable def PairsAre (h : Heap) : List Value → List (Str × Value) → Prop
  | [], [] => True
  | v :: vs, p :: r => (∃ a t, v = .ref a ∧ IsTup h a #[.str p.1 t, p.2]) ∧ PairsAre h vs r
  | _, _ => False
theorem PairsAre.mono {h h' : Heap} (k : Tk h h') : ∀ {vs : List Value} {kvs : List (Str × Value)}, PairsAre h vs kvs → PairsAre h' vs kvs
  | [], [], _ => trivial
  | _ :: _, _ :: _, ⟨⟨a, t, e, q⟩, r⟩ => ⟨⟨a, t, e, k _ _ q⟩, r.mono k⟩
  | [], _ :: _, x => x.elim
  | _ :: _, [], x => x.elim
theorem Tk.but2 {h h' : Heap} {D I : Addr} {oD oI : Obj} (eD : h.get? D = some oD) (nD : ∀ vs n, oD.data ≠ .seq vs n ∨ oD.cls ≠ .type "tuple") (eI : h.get? I = some oI) (nI : ∀ vs n, oI.data ≠ .seq vs n ∨ oI.cls ≠ .type "tuple") (k : ∀ b o, b ≠ D → b ≠ I → h.get? b = some o → h'.get? b = some o) : Tk h h' := fun a vs t => by
  have n1 := IsTup.ne t eD nD
  have n2 := IsTup.ne t eI nI
  refine ea1_2 t fun o e r => ?_; try clear t
  exact ⟨o, k a o n1 n2 e, r⟩
section
variable {prog : Program} {w : World} {A : Around} {s : Shared} {R : Result → Shared → Prop}
theorem dict_noTup {h : Heap} {D : Addr} {kvs : List (Str × Value)} (x : h.DictOf (PySem.strKind prog w) D kvs) : ∃ o, h.get? D = some o ∧ ∀ vs n, o.data ≠ .seq vs n ∨ o.cls ≠ .type "tuple" := by
  refine ea1_2 (Heap.dictOf_iff.mp x) fun o ho hd => ?_
  refine ea2_3 hd fun es ep hc e _ => ?_; try clear hd
  exact ⟨o, ho, fun vs n => .inl (by rw [e]; intro q; cases q)⟩
theorem upd_loop {L I D : Addr} (hLI : L ≠ I) (hDI : D ≠ I) (hDL : D ≠ L) (hh : A.handled = none) (all : List Value) : ∀ (vs : List Value) (kvs acc : List (Str × Value)) (i : Nat) (j : Int) (s : Shared), all.drop i = vs → i + vs.length = all.length → s.heap.IsListIter I L i → s.heap.IsList L all.toArray →
    s.heap.DictOf (PySem.strKind prog w) D acc → PairsAre s.heap vs kvs → acc.length + kvs.length ≤ 1000000 →
    (∀ h' tk, h'.DictOf (PySem.strKind prog w) D (merged acc kvs) → (∀ b o, b ≠ D → b ≠ I → s.heap.get? b = some o → h'.get? b = some o) → R (.ok (.ret .none)) { s with heap := h', toks := tk }) →
    codeAny (model prog w) A (.builtin "dict.update.loop" ⟨[.ref D, .ref I, .int j 0, .none], []⟩) R s := by
  intro vs
  induction vs with
  | nil =>
    intro kvs acc i j s hdr hil hit hL hD hp hz hR
    have hsz : i = all.length := by simpa using hil
    refine codeAny_builtin entry_upd_loop ?_
    rw [Around.under_plainId plain_upd_loop _]
    have W := Walks.list (prog := prog) (w := w) (A := A.in1) hh I L hLI all.toArray
    show wpAny _ A.in1 (pyNext (.ref I) >>= _) _ _ _
    refine wpAny_bind (W.done s _ _ (by rw [List.size_toArray, ← hsz]; exact ⟨hit, hL⟩) fun h' tk k => ?_)
    cases kvs with
    | cons p r => exact hp.elim
    | nil =>
      refine wpAny_bind (m := Builtin.Dict.addKeywords D []) (wpAny_pure (wpAny_pure ?_))
      refine ea1_2 (Heap.dictOf_iff.mp hD) fun oD eD rD => ?_
      exact hR h' tk (Heap.dictOf_iff.mpr ⟨oD, k D oD (by simpa using hDI) eD, rD⟩) fun b o n1 n2 e => k b o (by simpa using n2) e
  | cons v vs ih =>
    intro kvs acc i j s hdr hil hit hL hD hp hz hR
    cases kvs with
    | nil => exact hp.elim
    | cons p r =>
    obtain ⟨k, x⟩ := p
    obtain ⟨⟨a, t, rfl, ht⟩, hp⟩ := hp
    have hlt : i < all.length := by rw [List.length_cons] at hil; lia
    have hv : all[i]? = some (.ref a) := by
      have := congrArg (·[0]?) hdr
      simpa [List.getElem?_drop] using this
    have hdr' : all.drop (i + 1) = vs := by rw [← List.drop_drop, hdr]; rfl
    refine codeAny_builtin entry_upd_loop ?_
    rw [Around.under_plainId plain_upd_loop _]
    have W := Walks.list (prog := prog) (w := w) (A := A.in1) hh I L hLI all.toArray
    show wpAny _ A.in1 (pyNext (.ref I) >>= _) _ _ _
    refine wpAny_bind (W.item i s _ _ (by rw [List.size_toArray]; exact hlt) ⟨hit, hL⟩ fun v' h' tk hv' st' kp => ?_)
    obtain rfl : v' = .ref a := by rw [List.getElem?_toArray, hv] at hv'; exact (Option.some.inj hv').symm
    refine ea1_3 (id hit) fun oI eI cI dI => ?_
    refine ea1_2 (dict_noTup hD) fun oD eD nD => ?_
    have kp' : ∀ b o, b ≠ D → b ≠ I → s.heap.get? b = some o → h'.get? b = some o := fun b o _ n2 e => kp b o (by simpa using n2) e
    have nI : ∀ vs n, oI.data ≠ .seq vs n ∨ oI.cls ≠ .type "tuple" := fun vs n => .inl (by rw [dI]; intro q; cases q)
    have tk1 : Tk s.heap h' := .but2 eD nD eI nI kp'
    have hD' : h'.DictOf (PySem.strKind prog w) D acc := by
      refine ea1_2 (Heap.dictOf_iff.mp hD) fun oD eD rD => ?_
      exact Heap.dictOf_iff.mpr ⟨oD, kp D oD (by simpa using hDI) eD, rD⟩
    refine ea1_3 (tk1 _ _ ht) fun oa ea ca zq1 => ?_; refine ea1_1 zq1 fun na da => ?_; clear zq1
    show wpAny _ _ (holding [.ref a] _ >>= _) _ _ _
    refine wpAny_bind (wpAny_holding (wpAny_bind (wpAny_tryCatch ?_)))
    unfold Builtin.Dict.pairItems
    refine wpAny_bind (wpAny_typeOf (T := "tuple") ⟨oa, ea, ca⟩ ?_)
    rw [if_pos (by decide)]
    refine wpAny_bind ?_
    unfold seqItems?
    refine wpAny_bind (wpAny_load ea ?_)
    rw [da]
    refine wpAny_pure (wpAny_pure ?_)
    show wpAny _ _ (holding [.str k t, x] (dictSet D (.str k t) x)) _ _ _
    refine wpAny_holding (wpAny_dictSet_pairs (knd := PySem.strKind prog w) (k := k) (by show (k == k) = true; simp) hD' (fun h₂ hD₂ hs => ?_) (by rw [sizeLine_eq]; rw [List.length_cons] at hz; lia))
    refine wpAny_pure ⟨plainId_quiet plain_upd_loop _, ?_⟩
    refine ea1_2 (dict_noTup hD') fun oD' eD' nD' => ?_
    have tk2 : Tk h' h₂ := Tk.sameBut hs eD' nD'
    have hst := stored_length_le acc k x
    rw [List.length_cons] at hz hil
    refine ih r (stored acc k x) (i + 1) (j + 1) _ hdr' (by lia) ?_ ?_ hD₂ ((hp.mono tk1).mono tk2) (by lia) fun h₃ tk₃ hD₃ k₃ => ?_
    · refine ea1_2 (st'.1) fun oI eI rI => ?_; exact ⟨oI, (hs.2 _ (Ne.symm hDI)).trans eI, rI⟩
    · refine ea1_2 (st'.2) fun oL eL rL => ?_; exact ⟨oL, (hs.2 _ (Ne.symm hDL)).trans eL, rL⟩
    · refine hR h₃ tk₃ ?_ fun b o n1 n2 e => k₃ b o n1 n2 ((hs.2 b n1).trans (kp' b o n1 n2 e))
      exact hD₃
/-- «dict(list of pairs)» -/
theorem dict_call {L : Addr} {vs : List Value} {kvs : List (Str × Value)} {n : Nat} {E : Value → Shared → Prop} {Q : Value → Shared → Prop} (hh : A.handled = none) (hL : s.heap.get? L = some (listOf vs.toArray n)) (hp : PairsAre s.heap vs kvs) (hz : kvs.length ≤ 1000000)
    (h : ∀ h' tk, h'.DictOf (PySem.strKind prog w) s.heap.objs.size (merged [] kvs) → (∀ b o, s.heap.get? b = some o → h'.get? b = some o) → Q (.ref s.heap.objs.size) { s with heap := h', toks := tk }) :
    wpAny (model prog w) A (call (.type "dict") [.ref L]) Q E s := by
  refine callType_codes (Q₁ := fun obj s₁ => obj = .ref s.heap.objs.size ∧ s₁ = { s with heap := s.heap.push { cls := .type "dict", data := .dict #[] } }) PySem.F.kt_called_dict (PySem.F.kt_typeCall_dict_1 _) PySem.F.entry_dict_init (kt_code_dict_new _ ⟨rfl, rfl⟩) ?_
  rintro obj s₁ ⟨rfl, rfl⟩
  have hnew : (s.heap.push { cls := .type "dict", data := .dict #[] }).DictOf (PySem.strKind prog w) s.heap.objs.size [] := Heap.DictOf.new s.heap
  have ltL : L < s.heap.objs.size := Heap.lt_size hL
  have kp0 : ∀ b o, s.heap.get? b = some o → (s.heap.push { cls := .type "dict", data := .dict #[] }).get? b = some o := fun b o e => Heap.get?_push_of_some _ e
  refine ⟨hnew.typeIs, PySem.F.args_dict_init_2 _ _, ?_⟩
  unfold Builtin.«dict.__init__»
  refine wpAny_bind ?_
  unfold Builtin.Dict.selfAndRest
  refine wpAny_bind (wpAny_notOrdered_dict hnew.typeIs ?_)
  show wpAny _ _ (pure (s.heap.objs.size, [Value.ref L])) _ _ _
  refine wpAny_pure ?_
  show wpAny _ _ (Builtin.Dict.updateFrom "dict.__init__" s.heap.objs.size (.ref L) [] .none) _ _ _
  unfold Builtin.Dict.updateFrom
  refine wpAny_bind (wpAny_typeOf (T := "list") ⟨_, kp0 _ _ hL, rfl⟩ ?_)
  rw [if_pos (by decide)]
  refine wpAny_bind (miss_get hh (kp0 _ _ hL) rfl rfl ⟨_, _, rfl⟩ fun h₂ tk₂ k₂ => ?_)
  simp only [Option.isNone_none, if_true]
  refine wpAny_bind (wpAny_rule ?_)
  have hL₂ := k₂ _ _ (kp0 _ _ hL)
  have hltD : s.heap.objs.size < h₂.objs.size := by
    refine ea1_2 (dict_noTup hnew) fun oD eD _ => ?_
    exact Heap.lt_size (k₂ _ _ eD)
  refine wpAny_bind (wpAny_pyIter_list (items := vs.toArray) ⟨_, hL₂, rfl, _, rfl⟩ ?_)
  refine wpAny_pure ⟨plainId_quiet plain_upd_loop _, ?_⟩
  have kp3 : ∀ b o, h₂.get? b = some o → (h₂.push { cls := .type "list_iterator", data := .fields #[.ref L, .int 0 0] }).get? b = some o := fun b o e => Heap.get?_push_of_some _ e
  have kall : ∀ b o, s.heap.get? b = some o → (h₂.push { cls := .type "list_iterator", data := .fields #[.ref L, .int 0 0] }).get? b = some o := fun b o e => kp3 _ _ (k₂ _ _ (kp0 _ _ e))
  refine upd_loop (L := L) (I := h₂.objs.size) (D := s.heap.objs.size) (A := A.in1) (Nat.ne_of_lt (Nat.lt_trans ltL hltD)) (Nat.ne_of_lt hltD) (Nat.ne_of_gt ltL) hh vs vs kvs [] 0 0 _ rfl (by simp) ⟨_, Heap.get?_push_size _ rfl, rfl, rfl⟩ ⟨_, kall _ _ hL, rfl, _, rfl⟩ ?_ (hp.mono (.of_keep kall)) (by simpa using hz) fun h' tk hD k => ?_
  · refine ea1_2 (Heap.dictOf_iff.mp hnew) fun oD eD rD => ?_
    exact Heap.dictOf_iff.mpr ⟨oD, kp3 _ _ (k₂ _ _ eD), rD⟩
  · exact ⟨rfl, h h' tk hD fun b o e => k b o (Nat.ne_of_lt (Heap.lt_size e)) (Nat.ne_of_lt (Nat.lt_trans (Heap.lt_size e) hltD)) (kall b o e)⟩
end
theorem rvAll_of {h : Heap} : ∀ {vs : List Value} {ds : List AV}, vs.length = ds.length → (∀ (j : Nat) (v : Value) (d : AV), vs[j]? = some v → ds[j]? = some d → Rv h v d) → RvAll h vs ds
  | [], [], _, _ => .nil
  | v :: vs, d :: ds, hl, hx => .cons (hx 0 v d rfl rfl) (rvAll_of (by simpa using hl) fun j u e h1 h2 => hx (j + 1) u e (by simpa using h1) (by simpa using h2))
noncomputable def pairAV (p : Str × AV) : AV := .tup [.str p.1, p.2]
theorem pairs_of {h : Heap} {vs : List Value} {l : List (Str × AV)} (r : RvAll h vs (l.map pairAV)) : ∃ kvs, PairsAre h vs kvs ∧ RvKvs h kvs l := by
  induction l generalizing vs with
  | nil => exact RvAll.e0 r (P := fun vs => ∃ kvs, PairsAre h vs kvs ∧ RvKvs h kvs []) ⟨[], trivial, trivial⟩
  | cons p l ih =>
    (apply RvAll.eC r; intro v vs r r')
    refine ea1_2 (ih r') fun kvs a b => ?_
    (apply Rv.eTup r; intro ax ws t r)
    revert t
    (apply RvAll.e2 r; intro x u r1 r2)
    (apply Rv.eStr r1; intro tok)
    intro t
    exact ⟨(p.1, u) :: kvs, ⟨⟨ax, tok, rfl, t⟩, a⟩, rfl, r2, b⟩
section
variable {c : Cx} {f : Fx} {env : Env} {ρ : Locals} {η η' : Store} {Φ : AV → Store → Prop} {Ψ : Exc} {n : Nat} {s : Shared} {E : Value → Shared → Prop}
noncomputable abbrev viewO (D : Addr) : Obj := { cls := .type "dict_items", dict := none, data := .fields #[.ref D], slots := #[] }
theorem Op.items {D : Addr} {l : List (Str × AV)} (m : (D, .dict l) ∈ η) (lo : (D == sysModules) = false) (h : ∀ V, Φ (.val (.ref V)) ((V, .raw (viewO D)) :: η)) : Op c f env (callT (.builtin "dict.items")) [.val (.ref D)] ρ η Φ Ψ := fun vs s E r R _ => by
  (apply RvAll.e1 r; intro _ r)
  first | apply Rv.eVal r | (apply Rv.eInt r; intro _) | (apply Rv.eStr r; intro _) | apply Rv.eBool r | cases r
  refine ea1_2 (R.dictAt m) fun kvs hD rk => ?_
  have kp : ∀ b o', s.heap.get? b = some o' → (s.heap.push (viewO D)).get? b = some o' := fun b o e => Heap.get?_push_of_some _ e
  exact call_meetsIn PySem.F.slot_dict_items hD.typeIs PySem.F.entry_dict_items (PySem.F.args_dict_items_1 _) (meets_dict_items (PySem.strKind c.prog c.w) D lo) ⟨⟨kvs, hD⟩,
    ⟨_, _, R.alloc (ao := .raw (viewO D)) kp (Heap.get?_none_of_le (Nat.le_refl _)) (Heap.get?_push_size _ rfl) ⟨rfl, (fun v q => by cases q), fun vs n => .inl fun q => by cases q⟩, .alloc kp (Heap.get?_none_of_le (Nat.le_refl _)), .val _, h _⟩⟩
theorem Op.listItems {V D : Addr} {l : List (Str × AV)} (mV : (V, .raw (viewO D)) ∈ η) (m : (D, .dict l) ∈ η) (hz : l.length ≤ 1000000) (hh : f.A.handled = none) (h : ∀ L, Φ (.val (.ref L)) ((L, .list (l.map pairAV)) :: η)) : Op c f env (callT (.type "list")) [.val (.ref V)] ρ η Φ Ψ := fun vs s E r R _ => by
  (apply RvAll.e1 r; intro _ r)
  first | apply Rv.eVal r | (apply Rv.eInt r; intro _) | (apply Rv.eStr r; intro _) | apply Rv.eBool r | cases r
  refine ea1_2 (R.dictAt m) fun kvs hD rk => ?_
  refine ea1_1 (hD.dictAt) fun ep hat => ?_
  obtain ⟨oV, eV, _, _, _, rfl, _⟩ := R.objs _ _ mV
  have hkl : kvs.length = l.length := by rw [← List.length_map (·.1), rk.keys, List.length_map]
  refine kdx_call (knd := PySem.strKind c.prog c.w) (kvs := kvs) (ep := ep) hh ⟨_, eV, rfl, rfl⟩ hat (by rw [sizeLine_eq]; lia) fun h' tk acc k as kp hS hl hG hacc => ?_
  have rk' := rk.mono (Tk.of_keep kp)
  have key : ∀ {kvs : List (Str × Value)} {l : List (Str × AV)}, RvKvs h' kvs l → ∀ (j : Nat) (x : Str) (u : Value) (p : Str × AV), kvs[j]? = some (x, u) → l[j]? = some p → x = p.1 ∧ Rv h' u p.2 := by
    intro kvs
    induction kvs with
    | nil => intro l _ j x u p e; simp at e
    | cons q kvs ih =>
      intro l r j x u p e1 e2
      cases l with
      | nil => exact r.elim
      | cons q' l =>
        refine ea0_3 r fun k1 k2 k3 => ?_; try clear r
        cases j with
        | zero => simp only [List.getElem?_cons_zero, Option.some.injEq] at e1 e2; subst e1 e2; exact ⟨k1, k2⟩
        | succ j => exact ih k3 j x u p (by simpa using e1) (by simpa using e2)
  have ra : RvAll h' acc.toList (l.map pairAV) := by
    rw [hacc]
    refine rvAll_of (by rw [List.length_map, List.length_map, hl, hkl]) fun j v d e1 e2 => ?_
    rw [List.getElem?_map] at e1 e2
    refine ea1_2 (Option.map_eq_some_iff.mp e1) fun a ea yq2 => ?_; subst yq2
    refine ea1_2 (Option.map_eq_some_iff.mp e2) fun p ep' yq3 => ?_; subst yq3
    refine ea3_3 (hG.pairs j a ea) fun kv x u g1 g2 g3 => ?_
    refine ea0_2 (key rk' j x u p g1 ep') fun yq4 ru => ?_; subst yq4
    refine ea1_1 (is_str g2) fun t yq5 => ?_; subst yq5
    exact .tup (vs := [.str p.1 t, u]) ⟨_, g3, rfl, _, rfl⟩ (.cons (.str _ _) (.cons ru .nil))
  refine ⟨_, _, R.alloc (ao := .list (l.map pairAV)) kp (Heap.get?_none_of_le (Nat.le_refl _)) hS ⟨acc.toList, k, by rw [Array.toArray_toList], ra⟩, .alloc kp (Heap.get?_none_of_le (Nat.le_refl _)), .val _, h _⟩
theorem Op.dictPairs {L : Addr} {l : List (Str × AV)} (ok : FOk c f n) (m : (L, .list (l.map pairAV)) ∈ η) (hn : (l.map (·.1)).Nodup) (hz : l.length ≤ 1000000) (hh : f.A.handled = none) (h : ∀ D, (D == sysModules) = false → Φ (.val (.ref D)) ((D, .dict l) :: η)) : Op c f env (callT (.type "dict")) [.val (.ref L)] ρ η Φ Ψ := fun vs s E r R _ => by
  (apply RvAll.e1 r; intro _ r)
  first | apply Rv.eVal r | (apply Rv.eInt r; intro _) | (apply Rv.eStr r; intro _) | apply Rv.eBool r | cases r
  obtain ⟨o, e, _, _, _, ws, k, rfl, r⟩ := R.objs _ _ m
  refine ea1_2 (pairs_of r) fun kvs hp rk => ?_
  have hkl : kvs.length = l.length := by rw [← List.length_map (·.1), rk.keys, List.length_map]
  refine dict_call hh e hp (by lia) fun h' tk hD kp => ?_
  rw [merged_nil_of_nodup kvs (by rw [rk.keys]; exact hn)] at hD
  refine ea1_2 (Heap.dictOf_iff.mp hD) fun o' ho' hd' => ?_
  exact ⟨_, _, R.alloc (ao := .dict l) kp (Heap.get?_none_of_le (Nat.le_refl _)) ho' ⟨kvs, hd', rk.mono (.of_keep kp)⟩, .alloc kp (Heap.get?_none_of_le (Nat.le_refl _)), .val _, h _ (R.low ok (Nat.le_refl _))⟩
end
section
variable {c : Cx} {f : Fx} {env : Env} {ρ : Locals} {η η' : Store} {Φ : AV → Store → Prop} {Ψ : Exc} {n : Nat} {s : Shared} {E : Value → Shared → Prop}
/-- the pairs of a dict's display: texts as keys -/
noncomputable def DPs (c : Cx) (f : Fx) (env : Env) (ρ : Locals) (Φ : List (Str × AV) → Store → Prop) : List (Option Expr) → List Expr → List (Str × AV) → Store → Prop
  | [], es, acc, η => es = [] ∧ Φ acc η
  | k :: ks, es, acc, η => ∃ x m p e es', k = some (.Constant (.str x) m p) ∧ es = e :: es' ∧ Ev c f env e ρ η (fun a η' => DPs c f env ρ Φ ks es' (acc ++ [(x, a)]) η') Exc.no
theorem dps_eval {Φ : List (Str × AV) → Store → Prop} {pos : Pos} : ∀ (ks : List (Option Expr)) (es : List Expr) (acc : List (Str × AV)) (η : Store) (s : Shared) (Q : List (Value × Value) → Shared → Prop) (E : Value → Shared → Prop), DPs c f env ρ Φ ks es acc η → Rel c f env ρ η s →
    (∀ vs kvs l η' s', Carries (PySem.strKind c.prog c.w) vs kvs → RvKvs s'.heap kvs l → Φ (acc ++ l) η' → Rel c f env ρ η' s' → Stp f env η η' s s' → Q vs s') → wpAny (model c.prog c.w) f.A (evalPairs (pairTrees ks es env pos)) Q E s := by
  intro ks
  induction ks with
  | nil =>
    intro es acc η s Q E h R hQ
    refine ea0_2 h fun h1 hz => ?_
    subst h1
    exact evalPairs_nil (hQ [] [] [] η s trivial trivial (by rw [List.append_nil]; exact hz) R (.refl s))
  | cons k ks ih =>
    intro es acc η s Q E h R hQ
    obtain ⟨x, m, p, e, es', h1, h2, h⟩ := h
    subst h1 h2
    rw [pairTrees]
    refine evalPairs_cons (wpAny_Constant_str ?_)
    have t0 : Stp f env η η s { s with toks := s.toks + 1 } := .toks
    refine wpAny_bind (wpAny_mono (h _ _ (R.toks _) Esc.no) (fun v s₁ h₁ => ?_) fun _ _ x => x)
    obtain ⟨av, η₁, R₁, t₁, r₁, k₁⟩ := h₁
    refine wpAny_bind (wpAny_standAt (wpAny_pure ?_))
    refine ih es' _ η₁ s₁ _ E k₁ R₁ fun vs kvs l η' s' hc hr hΦ R' t' => ?_
    exact hQ _ ((x, v) :: kvs) ((x, av) :: l) η' s' ⟨strKey _ _, rfl, hc⟩ ⟨rfl, r₁.mono t'.tk, hr⟩ (by rw [List.append_assoc] at hΦ; exact hΦ) R' (t0.trans (t₁.trans t'))
theorem Ev.dict {ks : List (Option Expr)} {es : List Expr} {pos : Pos} (ok : FOk c f n) (h : DPs c f env ρ (fun l η' => (l.map (·.1)).Nodup ∧ l.length ≤ 1000 ∧ ∀ D, (D == sysModules) = false → Φ (.val (.ref D)) ((D, .dict l) :: η')) ks es [] η)
    (hall : ks.all (·.isSome) = true := by rfl) (hl : ks.length = es.length := by rfl) (h0 : ks ≠ [] := by nofun) (hlen : ks.length ≤ 15 := by decide) : Ev c f env (.Dict ks es pos) ρ η Φ Ψ := fun s E R _ => by
  have hn := pairTrees_length ks es env pos hall hl
  have hp0 : pairTrees ks es env pos ≠ [] := fun he => by
    rw [he] at hn
    exact h0 (List.length_eq_zero_iff.mp hn.symm)
  rw [arm_eval_Dict, zip_pairTrees ks es env pos hall hl, dictDisplay_pairs _ hp0 (by rw [hn]; lia)]
  refine wpAny_bind (wpAny_standAt (wpAny_bind (wpAny_subDict (knd := PySem.strKind c.prog c.w) (Q := fun d s' => wpAny (model c.prog c.w) f.A (pure (Value.ref d)) (Post c f env ρ η s Φ) E s') (by rw [hn]; exact hlen) ?_)))
  have kp : ∀ b o', s.heap.get? b = some o' → (s.heap.push { cls := .type "dict", data := .dict #[] }).get? b = some o' := fun b o e => Heap.get?_push_of_some _ e
  have fresh := R.fresh (a := s.heap.objs.size) (Heap.get?_none_of_le (Nat.le_refl _))
  refine ea0_4 fresh fun DO Dl D0 Dη => ?_; try clear fresh
  have eD : (s.heap.push { cls := .type "dict", data := .dict #[] }).get? s.heap.objs.size = some { cls := .type "dict", data := .dict #[] } := Heap.get?_push_size _ rfl
  refine dps_eval ks es [] η _ _ E h (R.keeps (n := s.toks) kp) fun vs kvs l η' s₁ hc hr hΦ R₁ t₁ => ?_
  rw [List.nil_append] at hΦ
  obtain ⟨hnd, hlz, hΦ⟩ := hΦ
  have eD₁ := t₁.kp' eD Dη DO
  have nD₁ : s.heap.objs.size ∉ η'.map (·.1) := fun q => by
    rcases t₁.dom _ q with q | q
    · exact Dη q
    · rw [eD] at q; cases q
  refine ⟨kvs, hc, ?_, fun h' hD' hs => wpAny_pure ?_⟩
  · have := (Heap.DictOf.new (knd := PySem.strKind c.prog c.w) s.heap)
    refine ea1_2 (Heap.dictOf_iff.mp this) fun o ho hd => ?_
    rw [eD] at ho
    exact Heap.dictOf_iff.mpr ⟨o, by rw [eD₁]; exact ho, hd⟩
  · rw [merged_nil_of_nodup kvs (by rw [hr.keys]; exact hnd)] at hD'
    refine ea1_2 (Heap.dictOf_iff.mp hD') fun o' ho' hd' => ?_
    have k₂ : ∀ b o, b ≠ s.heap.objs.size → s₁.heap.get? b = some o → h'.get? b = some o := fun b o ne e => (hs.2 b ne).trans e
    obtain ⟨R₂, tk₂⟩ := R₁.but (tk := s₁.toks + vs.length) eD₁ (fun v q => by cases q) (fun _ _ => .inl fun q => by cases q) nD₁ DO Dl D0 k₂
    have e0 : s.heap.get? s.heap.objs.size = none := Heap.get?_none_of_le (Nat.le_refl _)
    have t₂ : Stp f env η η' s s₁ := (Stp.keep (n := s.toks) kp).trans t₁
    have t₃ := t₂.but (tk := s₁.toks + vs.length) e0 DO tk₂ k₂
    refine ⟨_, (s.heap.objs.size, .dict l) :: η', ⟨R₂.fr, R₂.ns, R₂.names, fun a ao hm => ?_, ?_, R₂.cells, R₂.frs⟩, ⟨t₃.toStpX, t₃.kp, fun b hb => ?_, t₃.ex⟩, .val _, hΦ _ (R.low ok (Nat.le_refl _))⟩
    · rcases List.mem_cons.mp hm with q | hm
      · cases q; exact ⟨o', ho', DO, Dl, D0, kvs, hd', hr.mono tk₂⟩
      · exact R₂.objs a ao hm
    · rw [List.map_cons]; exact List.nodup_cons.mpr ⟨nD₁, R₂.nd⟩
    · rw [List.map_cons] at hb
      rcases List.mem_cons.mp hb with rfl | hb
      · exact .inr e0
      · exact t₃.dom b hb
/-- an object of a class without an __init__ -/
theorem Op.make0 {C : Addr} (ok : FOk c f n) (hm : makesIn c.K C = true) (hi : findIn c.K (.ref C) "__init__" = some (some (.builtin "object.__init__")))
    (h : ∀ x dx, x ≠ dx → Φ (.val (.ref x)) ((x, .raw (instObj C dx)) :: (dx, .flds []) :: η)) : Op c f env (callT (.ref C)) [] ρ η Φ Ψ := fun vs s E r R hE => by
  first | apply Rv.eVal r | (apply Rv.eInt r; intro _) | (apply Rv.eStr r; intro _) | apply Rv.eBool r | cases r
  obtain ⟨hp, g, d, t, os⟩ := s
  have X := R.K ok
  have Y := makes_of (M := model c.prog c.w) X hm
  refine wpAny_call (make_core Y (looks_findIn X hi) (fun self => Looks.of_pure (oi_bind self)) (.inr ⟨rfl, rfl⟩) ?_)
  have kp : ∀ b o, hp.get? b = some o → ((hp.push emptyDict).push (instObj C hp.objs.size)).get? b = some o := fun b o e => Heap.get?_push_of_some _ (Heap.get?_push_of_some _ e)
  have e1 : hp.get? (hp.objs.size + 1) = none := Heap.get?_none_of_le (Nat.le_succ _)
  have e2 : hp.get? hp.objs.size = none := Heap.get?_none_of_le (Nat.le_refl _)
  have g1 : ((hp.push emptyDict).push (instObj C hp.objs.size)).get? (hp.objs.size + 1) = some (instObj C hp.objs.size) := by
    have := Heap.get?_push_size (hp.push emptyDict) (o := instObj C hp.objs.size) rfl
    rwa [Heap.size_push] at this
  have g2 : ((hp.push emptyDict).push (instObj C hp.objs.size)).get? hp.objs.size = some emptyDict := Heap.get?_push_of_some _ (Heap.get?_push_size _ rfl)
  have R₁ := R.alloc2 (n := t) (ao := .raw (instObj C hp.objs.size)) (bo := .flds []) kp e1 e2 (Nat.succ_ne_self _) g1 ⟨rfl, fun v q => (by cases q), fun vs n => .inl fun q => (by cases q)⟩ g2 ⟨[], 0, rfl, trivial⟩
  have t₁ : Stp f env η ((hp.objs.size + 1, .raw (instObj C hp.objs.size)) :: (hp.objs.size, .flds []) :: η) ⟨hp, g, d, t, os⟩ ⟨(hp.push emptyDict).push (instObj C hp.objs.size), g, d, t, os⟩ := .alloc2 kp e1 e2
  have t1 : Looks (model c.prog c.w) ((hp.push emptyDict).push (instObj C hp.objs.size)) (typeOf (.ref (hp.objs.size + 1))) (.ref C) := (Looks.ld g1).andThen .now
  have t2 : Looks (model c.prog c.w) ((hp.push emptyDict).push (instObj C hp.objs.size)) (isInstance (.ref (hp.objs.size + 1)) (.type "object")) true := t1.andThen (Y.top.keeps kp)
  refine codeAny_call_builtin oi_plain entry_oi (@check_slot (model c.prog c.w) _ _ _ "object.__init__" "object" "__init__" (.ref (hp.objs.size + 1)) [] [] _ oi_kind oi_split t2 (oi_args (.ref (hp.objs.size + 1))) ?_)
  rw [oi_run]
  exact wpAny_pure ⟨rfl, _, _, R₁, t₁, .val _, h _ _ (Nat.succ_ne_self _)⟩
theorem rv_ints {h : Heap} {vs : List Value} {is : List Int} (r : IntsAre vs is) : RvAll h vs (is.map .int) :=
  r.rec (motive := fun vs is _ => RvAll h vs (is.map .int)) .nil fun _ _ {_ _} _ i => .cons (.int _ _) i
/-- «x[:a]» of a list that was there before the call -/
theorem Op.sliceOld {value slice : Expr} {a D : Addr} {vs₀ : List Value} {is : List Int} {k : Nat} {t : Tok} (hL : f.h₀.IsList a vs₀.toArray) (hI : IntsAre vs₀ is) (hz : is.length ≤ 1000000)
    (h : ∀ D', Φ (.val (.ref D')) ((D', .list ((is.take k).map .int)) :: η)) (hs : Plain slice) :
    Op c f env (subT value slice) [.val (.ref a), .val (.ref D)] ρ ((D, .raw (sliceO .none (.int (k : Int) t) .none)) :: η) Φ Ψ := fun vs s E r R _ => by
  (apply RvAll.e2 r; intro _ _ r r')
  first | apply Rv.eVal r' | (apply Rv.eInt r'; intro _) | (apply Rv.eStr r'; intro _) | apply Rv.eBool r' | cases r'
  first | apply Rv.eVal r | (apply Rv.eInt r; intro _) | (apply Rv.eStr r; intro _) | apply Rv.eBool r | cases r
  obtain ⟨o, e, _, _, _, rfl, _⟩ := R.objs _ _ List.mem_cons_self
  refine ea1_1 (R.fr) fun m F => ?_
  refine ea1_3 hL fun oa ea ca zq1 => ?_; try clear hL; refine ea1_1 zq1 fun na da => ?_; clear zq1
  have hl : s.heap.IsList a vs₀.toArray := ⟨oa, F.keep _ _ ea, ca, na, da⟩
  refine ea1_1 (hs (.ref a) (.ref D)) fun ops ho => ?_
  have ra : RvAll s.heap vs₀ (is.map .int) := rv_ints hI
  refine tail_any hl.typeIs list_getitem_lookup (wpAny_getItem_list_slice hl ⟨_, e, rfl, rfl⟩ .none (.int _ _) .none (by decide) ?_ (by rw [List.size_toArray, ra.length, List.length_map, sizeLine_eq]; lia)) ho
  have kp : ∀ b o, s.heap.get? b = some o → (s.heap.push { cls := .type "list", data := .seq (slicePick vs₀.toArray none (some (k : Int)) none) }).get? b = some o := fun b o e => Heap.get?_push_of_some _ e
  have R' := R.fewer (ρ' := ρ) (η' := η) (fun _ _ e => e) (fun _ h => List.mem_cons_of_mem _ h) (List.nodup_cons.mp R.nd).2
  have rp := pick_upto (ra.mono (Tk.of_keep kp)) k
  rw [← List.map_take] at rp
  refine ⟨_, _, R'.alloc (ao := .list ((is.take k).map .int)) kp (Heap.get?_none_of_le (Nat.le_refl _)) (Heap.get?_push_size _ rfl) ⟨(slicePick vs₀.toArray none (some (k : Int)) none).toList, 0, by simp, rp⟩, ?_, .val _, h _⟩
  have t : Stp f env ((D, .raw (sliceO .none (.int (k : Int) t) .none)) :: η) ((s.heap.objs.size, .list ((is.take k).map .int)) :: (D, .raw (sliceO .none (.int (k : Int) t) .none)) :: η) s { s with heap := s.heap.push { cls := .type "list", data := .seq (slicePick vs₀.toArray none (some (k : Int)) none) }, toks := s.toks } := .alloc kp (Heap.get?_none_of_le (Nat.le_refl _))
  exact t.fewer fun p hp => by
    rcases List.mem_cons.mp hp with rfl | hp
    · exact List.mem_cons_self
    · exact List.mem_cons_of_mem _ (List.mem_cons_of_mem _ hp)
end
section
variable {prog : Program} {w : World} {M : Model} {A : Around} {E : Value → Shared → Prop} {R : Result → Shared → Prop} {h : Heap} {g : Array GenState} {d : Drawn} {t : Nat} {os : OsState}
variable {nm q : Str} {C N : Addr} {bs bm : List Value} {hdct : Bool} {sn : List Str} {sub : List Value} {ab : Bool} {col : Option Bool} {dd : Option Addr} {k0 k1 k2 k3 k5 : Option Value} {Bn newId inN : String} {bmN : List Value}
/-- a new exception of a class that has other classes of the module above it -/
theorem exc_check (Fn : ExcBaseFacts Bn newId inN bmN) (hB : bm.contains (.type Bn) = true) {rest : List Value} {Q : Unit → Shared → Prop} (hC : h.get? C = some (excClassObj nm q C N bs bm hdct sn sub ab col dd k0 k1 k2 k3 k5 newId))
    (hq : Q () ⟨h, g, d, t, os⟩) : wpAny M A (checkBuiltinCall newId ⟨.ref C :: rest, []⟩) Q E ⟨h, g, d, t, os⟩ := by
  have hcont : (Value.ref C :: bm).contains (.type Bn) = true := by rw [List.contains_cons, hB, Bool.or_true]
  have hstar := Fn.noStar
  simp only [checkBuiltinCall, Fn.newKind, Fn.newSplit, Fn.newRow]
  repeat (first | refine wpAny_loadPart_at hC ?_ | (refine wpAny_isSubtype_exc hC ?_; rw [hcont]) | refine wpAny_staticBase_exc hC ?_ | refine wpAny_madeBy_exc hC ?_ | simp only [bne_self_eq_false, Bool.false_eq_true, if_false] | wp_step)
  exact hq
theorem exc_new (Fn : ExcBaseFacts Bn newId inN bmN) (hB : bm.contains (.type Bn) = true) (hA : bm.contains (.type "AttributeError") = false) (hN : bm.contains (.type "NameError") = false) {rest : List Value}
    (hC : h.get? C = some (excClassObj nm q C N bs bm hdct sn sub ab col dd k0 k1 k2 k3 k5 newId))
    (hq : R (.ok (.ret (.ref (h.objs.size + 1)))) ⟨(h.push { cls := .type "tuple", data := .seq rest.toArray }).push { cls := .ref C, data := .fields #[.ref h.objs.size, .none, .none, .none, .bool false, .none] }, g, d, t, os⟩) (hrest : rest.length ≤ sizeLine) :
    codeAny (model prog w) A (.builtin newId ⟨.ref C :: rest, []⟩) R ⟨h, g, d, t, os⟩ := by
  have hends := Fn.ends
  have hcB : (Value.ref C :: bm).contains (.type Bn) = true := by rw [List.contains_cons, hB, Bool.or_true]
  have hcA : (Value.ref C :: bm).contains (.type "AttributeError") = false := by rw [List.contains_cons, hA]; rfl
  have hcN : (Value.ref C :: bm).contains (.type "NameError") = false := by rw [List.contains_cons, hN]; rfl
  refine codeAny_builtinAt Fn.entry ?_
  unfold Builtin.«BaseException.__new__»
  refine PySem.wpAt_bind ?_
  show PySem.wpAt _ _ _ (stack >>= _) _ _ _
  refine PySem.wpAt_bind (PySem.wpAt_stack fun p below => PySem.wpAt_of_wpAny ?_)
  wp_walk
  refine PySem.wpAt_of_wpAny ?_
  rw [Fn.owner]
  repeat (first | with_reducible refine wpAny_madeHere_exc Fn.canon hC ?_ | with_reducible refine wpAny_loadPart_at hC ?_ | (with_reducible refine wpAny_isSubtype_exc hC ?_; first | rw [hcB] | rw [hcA] | rw [hcN]) | wp_step)
  show R _ _
  rw [Heap.size_push]
  exact hq
end
section
variable {prog : Program} {w : World} {A : Around} {E : Value → Shared → Prop} {h : Heap} {g : Array GenState} {d : Drawn} {t : Nat} {os : OsState}
variable {nm q : Str} {C N fI : Addr} {bs bm : List Value} {hdct : Bool} {sn : List Str} {sub : List Value} {ab : Bool} {col : Option Bool} {dd : Option Addr} {k0 k1 k2 k3 k5 : Option Value} {Bn newId inN : String} {bmN : List Value} {K : Frag}
theorem exc_call (Fn : ExcBaseFacts Bn newId inN bmN) (hB : bm.contains (.type Bn) = true) (hA : bm.contains (.type "AttributeError") = false) (hN : bm.contains (.type "NameError") = false) (X : K.In h) {rest : List Value} {Q : Value → Shared → Prop}
    (hC : h.get? C = some (excClassObj nm q C N bs bm hdct sn sub ab col dd k0 k1 k2 k3 k5 newId)) (hi : findIn K (.ref C) "__init__" = some (some (.ref fI))) (hf : typeIn K (.ref fI) = some (.type "function"))
    (hq : codeAny (model prog w) (A.under (.builtin "type.__call__" ⟨.ref C :: rest, []⟩)) (.call (.ref fI) ⟨.ref (h.objs.size + 1) :: rest, []⟩) (InitBack (h.objs.size + 1) fun r s' => match r with | .ok (.ret v) => Q v s' | .ok _ => False | .error e => E e s')
      ⟨(h.push { cls := .type "tuple", data := .seq rest.toArray }).push { cls := .ref C, data := .fields #[.ref h.objs.size, .none, .none, .none, .bool false, .none] }, g, d, t, os⟩) (hrest : rest.length ≤ sizeLine) :
    wpAny (model prog w) A (call (.ref C) rest) Q E ⟨h, g, d, t, os⟩ := by
  have f1 := tc_lookup
  have f2 := tc_bind (.ref C)
  have hT : (⟨h, g, d, t, os⟩ : Shared).TypeIs (.ref C) "type" := ⟨_, hC, rfl⟩
  refine wpAny_call (codeAny_of_tree ?_)
  show wpAny _ _ (callAny (.ref C) _) _ _ _
  repeat (any_goals (first | assumption | with_reducible refine wpAny_loadPart_at hC ?_ | wp_step))
  refine ⟨rfl, ?_⟩
  refine codeAny_call_builtin_at (Code.quiet_builtin _ (by decide +kernel)) entry_typeCall (wpAny_check_type_call_sub hC ?_)
  repeat (first | with_reducible refine wpAny_loadPart_at hC ?_ | with_reducible refine wpAny_madeBy_exc hC ?_ | wp_step)
  refine codeAny_call_builtin_code (Code.quiet_builtin _ Fn.quiet) (exc_check Fn hB hC ?_)
  refine exc_new Fn hB hA hN hC ?_ hrest
  show wpAny _ _ _ _ _ _
  have hC₁ := Heap.get?_push_of_some { cls := .ref C, data := .fields #[.ref h.objs.size, .none, .none, .none, .bool false, .none] } (Heap.get?_push_of_some { cls := .type "tuple", data := .seq rest.toArray } hC)
  have X₁ : K.In ((h.push { cls := .type "tuple", data := .seq rest.toArray }).push { cls := .ref C, data := .fields #[.ref h.objs.size, .none, .none, .none, .bool false, .none] }) := X.keeps fun b o e => Heap.get?_push_of_some _ (Heap.get?_push_of_some _ e)
  have hget : ((h.push { cls := .type "tuple", data := .seq rest.toArray }).push { cls := .ref C, data := .fields #[.ref h.objs.size, .none, .none, .none, .bool false, .none] }).get? (h.objs.size + 1) = some { cls := .ref C, data := .fields #[.ref h.objs.size, .none, .none, .none, .bool false, .none] } := by heap_get
  have hcC : (Value.ref C :: bm).contains (.ref C) = true := by simp
  unfold isInstance
  repeat (first | with_reducible refine wpAny_loadPart_at hget ?_ | (with_reducible refine wpAny_isSubtype_exc hC₁ ?_; rw [hcC]) | wp_step)
  refine wpAny_isSubtype_exc hC₁ ?_
  rw [hcC]
  repeat (first | with_reducible refine wpAny_loadPart_at hget ?_ | wp_step)
  show wpAny _ _ (typeLookup (.ref C) _) _ _ _
  refine (looks_findIn X₁ hi).here ?_
  refine wpAny_holding (wpAny_bind ((bind_fn X₁ _ hf).here ?_))
  dsimp only
  refine wpAny_bind (wpAny_call (codeAny_mono hq fun r s' z => ?_))
  cases r with
  | error e => exact z
  | ok fl =>
    cases fl with
    | ret v =>
      obtain ⟨rfl, z⟩ := z
      refine wpAny_pure ?_
      wp_walk
      exact z
    | _ => exact z.elim
end
/-! ### «super().__init__(what)» of an exception -/
noncomputable abbrev excInit : String := "Exception.__init__"
noncomputable abbrev wrapO (x : Addr) : Obj := { cls := .type "method-wrapper", dict := none, data := .fields #[.builtin "Exception.__init__", .ref x], slots := #[] }
theorem wd_slot : Slot "wrapper_descriptor" "__get__" "wrapper_descriptor.__get__" :=
  .of (owner := "wrapper_descriptor") (n := "__get__") (by rw [typeLookup_type, builtinLookup_eq_fast]; kernel_rfl) (by decide +kernel) (by decide +kernel) (by decide +kernel)
    (by first | exact .inl (by decide +kernel) | exact .inr (by decide +kernel)) (by rw [isSubtype_type]; kernel_rfl)
theorem wd_entry : entryFor table "wrapper_descriptor.__get__" = some Builtin.«wrapper_descriptor.__get__» := entryFor_of_tree (by kernel_rfl)
theorem wd_args (a b c : Value) : argsOk "wrapper_descriptor.__get__" ⟨[a, b, c], []⟩ := by unfold argsOk; kernel_rfl
theorem ei_type : typeOf (.builtin "Exception.__init__") = pure (.type "wrapper_descriptor") := by show builtinType _ = _; rw [builtinType_eq_fast]; kernel_rfl
theorem ei_entry : entryFor table "Exception.__init__" = some Builtin.«BaseException.__init__» := entryFor_alias (id' := "BaseException.__init__") (by kernel_rfl) rfl (by decide +kernel) (by kernel_rfl)
theorem ei_owner : (kfb_private% "ownerAndName") "Exception.__init__" = ("Exception", "__init__") := by first | decide +kernel | kernel_rfl
theorem ei_name : (kfb_private% "nameAndClass") (.builtin "Exception.__init__") = pure (Str.ofString "__init__", .type "Exception") := by
  show (match (kfb_private% "ownerAndName") "Exception.__init__" with | (owner, name) => (pure ((name : Str), Value.type owner) : Sem (Str × Value))) = _
  rw [ei_owner]
section
variable {prog : Program} {w : World} {A : Around} {E : Value → Shared → Prop} {s : Shared}
theorem wd_get {x C : Addr} {P : PySem.Fin → Shared → Prop} (hsub : Looks (model prog w) s.heap (isInstance (.ref x) (.type "Exception")) true) (h : P (.done (.ret (.ref s.heap.objs.size))) { s with heap := s.heap.push (wrapO x) }) :
    wpAny (model prog w) A (Builtin.«wrapper_descriptor.__get__» ⟨[.builtin "Exception.__init__", .ref x, .ref C], []⟩) P E s := by
  unfold Builtin.«wrapper_descriptor.__get__»
  refine wpAny_bind (wpAny_of_eq (a := (.builtin "Exception.__init__", some (.ref x), some (.ref C))) (by first | rfl | kernel_rfl) ?_)
  show wpAny _ _ ((kfb_private% "checkInstance") (.builtin "Exception.__init__") (.ref x) >>= fun _ => newFields "method-wrapper" [.builtin "Exception.__init__", .ref x] >>= fun r => ret r) P E s
  refine wpAny_bind ?_
  show wpAny _ _ ((kfb_private% "nameAndClass") (.builtin "Exception.__init__") >>= _) _ _ _
  rw [ei_name]
  refine wpAny_bind (wpAny_pure (wpAny_bind (hsub.here ?_)))
  simp only [Bool.not_true, Bool.false_eq_true, if_false]
  refine wpAny_pure (wpAny_bind (wpAny_newObj_type (wpAny_pure h)))
theorem sx_ga {so D x C : Addr} {l₀ l : List Value} {K : Frag} {tk : Tok} {Q : PySem.Fin → Shared → Prop}
    (hso : s.heap.get? so = some (ks_superObj D x C)) (hno : Looks (model prog w) s.heap (opaqueClassAbove (.ref C)) none)
    (hC : Looks (model prog w) s.heap (mroOf (.ref C)) l₀) (hl : (l₀.dropWhile (· != .ref D)).drop 1 = l) (X : K.In s.heap)
    (hf : alongIn K "__init__" l = some (some (.builtin "Exception.__init__"))) (hsub : Looks (model prog w) s.heap (isInstance (.ref x) (.type "Exception")) true) (hxC : x ≠ C)
    (hq : Q (.done (.ret (.ref s.heap.objs.size))) { s with heap := s.heap.push (wrapO x) }) :
    wpAny (model prog w) A (Builtin.«super.__getattribute__» ⟨[.ref so, .str "__init__" tk], []⟩) Q E s := by
  obtain ⟨h, g, d, t, os⟩ := s
  have hlk := wd_slot.lookup
  have hne : (Value.ref x == Value.ref C) = false := by simp [hxC]
  have hty := ei_type
  have f0 : (#[.ref D, .ref x, .ref C] : Array Value)[0]? = some (.ref D) := rfl
  have f1 : (#[.ref D, .ref x, .ref C] : Array Value)[1]? = some (.ref x) := rfl
  have f2 : (#[.ref D, .ref x, .ref C] : Array Value)[2]? = some (.ref C) := rfl
  unfold Builtin.«super.__getattribute__»
  repeat (first
    | (with_reducible refine wpAny_field hso rfl f0 ?_) | (with_reducible refine wpAny_field hso rfl f1 ?_) | (with_reducible refine wpAny_field hso rfl f2 ?_)
    | (with_reducible refine ks_wpAny_notOpaque hno ?_)
    | (with_reducible refine Looks.at hC ?_; rw [hl])
    | (refine ks_forIn_along X (fun _ _ => rfl) rfl ?_ hf)
    | (refine wpAny_call_entry wd_slot hty wd_entry ?_ (wd_args _ _ _))
    | (refine wd_get hsub ?_)
    | (with_reducible refine ⟨_, rfl, ?_⟩)
    | (simp only [hne, Bool.or_false, Bool.false_eq_true, if_false])
    | wp_step
    | dsimp only)
  all_goals exact hq
theorem sx_getMethod {so D x C : Addr} {l₀ l : List Value} {K : Frag} {pl : Sem Bool} {Q : Value × List Value → Shared → Prop}
    (hso : s.heap.get? so = some (ks_superObj D x C)) (hno : Looks (model prog w) s.heap (opaqueClassAbove (.ref C)) none)
    (hC : Looks (model prog w) s.heap (mroOf (.ref C)) l₀) (hl : (l₀.dropWhile (· != .ref D)).drop 1 = l) (X : K.In s.heap)
    (hf : alongIn K "__init__" l = some (some (.builtin "Exception.__init__"))) (hsub : Looks (model prog w) s.heap (isInstance (.ref x) (.type "Exception")) true) (hxC : x ≠ C)
    (hq : Q (.ref s.heap.objs.size, []) { s with heap := s.heap.push (wrapO x), toks := s.toks + 1 }) :
    wpAny (model prog w) A (getMethod (.ref so) "__init__" pl) Q E s := by
  have hlk := PySem.F.ks_slot_super_ga.lookup
  have hcan := PySem.F.ks_canon_super_ga
  have hT : ∀ t', ({ s with toks := t' } : Shared).TypeIs (.ref so) "super" := fun _ => ⟨_, hso, rfl⟩
  unfold getMethod
  refine wpAny_bind (wpAny_specialOf (hT _) hlk ?_)
  show wpAny _ _ (if (Manifest.canonical "super.__getattribute__" != "object.__getattribute__") = true then _ else _) _ _ _
  rw [if_pos hcan]
  unfold getAttr getAttrBy
  refine wpAny_bind (wpAny_bind (wpAny_mkText (wpAny_holding (wpAny_bind (wpAny_typeOf (hT _) (wpAny_bind (wpAny_of_eq hlk ?_)))))))
  show wpAny _ _ (getAttrByItsOwn (.ref so) (.str "__init__" s.toks) (.type "super") (.builtin "super.__getattribute__") true false) _ _ _
  unfold getAttrByItsOwn hookBefore callGetattribute boundAndCalled
  refine wpAny_bind (wpAny_of_eq (show (if onTheHeap (.type "super") then typeLookup (.type "super") "__getattr__" else pure none) = pure none from rfl) ?_)
  refine wpAny_bind (wpAny_attempt (wpAny_holding ?_))
  show wpAny _ _ (bindSpecial (.builtin "super.__getattribute__") (.ref so) >>= _) _ _ _
  refine wpAny_bind (wpAny_of_eq (PySem.F.ks_slot_super_ga.bind _) ?_)
  refine wpAny_mono (Q := fun v s' => v = .ref s.heap.objs.size ∧ s' = { s with heap := s.heap.push (wrapO x), toks := s.toks + 1 }) (E := fun _ _ => False)
    (wpAny_call_entry PySem.F.ks_slot_super_ga (hT _) PySem.F.ks_entry_super_ga (sx_ga (s := { s with toks := s.toks + 1 }) hso hno hC hl X hf hsub hxC ⟨_, rfl, rfl, rfl⟩) (PySem.F.ks_gaArgs_super _ _)) (fun v s' hv => ?_) fun _ _ z => z.elim
  refine ea0_2 hv fun yq1 yq2 => ?_; try clear hv; subst yq1; subst yq2
  exact wpAny_pure (wpAny_pure hq)
noncomputable def WrapAt (u x : Addr) (h : Heap) : Prop := h.get? u = some (wrapO x)
theorem sx_callWith {pos : Pos} {u x : Addr} {env : Env} {e : Expr} {Q : Value → Shared → Prop}
    (h : wpAny (model prog w) A (eval e env) (fun v s₁ => WrapAt u x s₁.heap ∧ wpAny (model prog w) A (call (.ref u) [v]) Q E s₁) E s)
    (he : starEach [e] env = [(false, eval e env)] := by rfl) :
    wpAny (model prog w) A (callWith pos (.ref u) [] (backTo pos (starEach [e] env)) []) Q E s := by
  have h' : wpAny (model prog w) A (spliced (backTo pos (starEach [e] env))) (fun vs s₁ => WrapAt u x s₁.heap ∧ wpAny (model prog w) A (call (.ref u) ([] ++ vs)) Q E s₁) E s :=
    args_cons (wpAny_mono h (fun v s₁ h₁ => spliced_none h₁) fun _ _ x => x) he
  rw [he] at h' ⊢
  unfold callWith
  refine wpAny_bind (wpAny_holding (wpAny_mono (evalArgs_plain (Q := fun a s₁ => WrapAt u x s₁.heap ∧ wpAny (model prog w) A (call (.ref u) ([] ++ a.pos) a.kw) Q E s₁) h') (fun a s₁ h₁ => wpAny_bind (wpAny_standAt ?_)) fun _ _ x => x))
  refine ea0_2 h₁ fun ho hcall => ?_; try clear h₁
  have hpl : ((backTo pos [(false, eval e env)]).any (·.1)) = false := rfl
  simp only [hpl, List.any_nil, Bool.or_false]
  refine wpAny_bind (m := keeperOf (.ref u)) ?_
  unfold keeperOf
  refine wpAny_bind (wpAny_load ho ?_)
  simp only [show (Value.type "method-wrapper" != Value.type "method") = true by decide, show (Value.type "method-wrapper" == Value.type "builtin_function_or_method" || Value.type "method-wrapper" == Value.type "method-wrapper") = true by decide, if_true]
  refine wpAny_pure ?_
  exact wpAny_bind (wpAny_mono hcall (fun r s₂ hr => wpAny_bind (wpAny_holding (wpAny_point (wpAny_pure hr)))) fun _ _ x => x)
/-- the call of the bound «Exception.__init__» -/
theorem sx_call {u x C : Addr} {ox : Obj} {vs : Array Value} {v : Value} {nm q : Str} {N : Addr} {bs bm : List Value} {hdct : Bool} {sn : List Str} {sub : List Value} {ab : Bool} {col : Option Bool} {dd : Option Addr} {k0 k1 k2 k3 k5 : Option Value} {newId : String} {Q : Value → Shared → Prop}
    (hu : s.heap.get? u = some (wrapO x)) (hC : s.heap.get? C = some (excClassObj nm q C N bs bm hdct sn sub ab col dd k0 k1 k2 k3 k5 newId)) (hx : s.heap.get? x = some ox) (hcls : ox.cls = .ref C) (hd : ox.data = .fields vs) (t0 : Addr) (h0 : vs[0]? = some (.ref t0))
    (h : ∀ tu h', h'.get? x = some { ox with data := .fields (vs.setIfInBounds 0 (.ref tu)) } → (∀ b o, b ≠ x → s.heap.get? b = some o → h'.get? b = some o) → Q .none { s with heap := h' }) :
    wpAny (model prog w) A (call (.ref u) [v]) Q E s := by
  refine wpAny_call (codeAny_of_tree ?_)
  show wpAny _ _ (callAny (.ref u) ⟨[v], []⟩) _ _ _
  unfold callAny
  refine wpAny_bind (wpAny_load hu ?_)
  dsimp only
  rw [if_pos (by decide)]
  show wpAny _ _ (checkBoundCall "Exception.__init__" ⟨[.ref x, v], []⟩ >>= fun _ => again (.builtin "Exception.__init__" ⟨[.ref x, v], []⟩)) _ _ _
  have F := PySem.F.excBase_Exception
  refine wpAny_bind ?_
  · obtain ⟨hp, g, d, t, os⟩ := s
    have hshort := F.noStar
    simp only [checkBoundCall, F.initKind, F.initRow]
    repeat (first | (with_reducible refine wpAny_loadPart_at hx ?_; rw [hcls]) | with_reducible refine wpAny_loadPart_at hC ?_ | wp_step)
    refine ⟨Code.quiet_builtin _ (by decide +kernel), codeAny_builtin ei_entry ?_⟩
    rw [Around.under_plainId (show plainId "Exception.__init__" = true by decide +kernel) _]
    unfold Builtin.«BaseException.__init__»
    show wpAny _ _ (newTuple [v] >>= fun r => Builtin.BaseException.bexcPut (.ref x) 0 r >>= fun _ => ret .none) _ _ _
    refine wpAny_bind (wpAny_newTuple ?_ (by show 1 ≤ sizeLine; rw [sizeLine_eq]; decide))
    have hx₁ : (hp.push { cls := .type "tuple", data := .seq [v].toArray }).get? x = some ox := Heap.get?_push_of_some _ hx
    unfold Builtin.BaseException.bexcPut
    refine wpAny_bind (wpAny_bind (wpAny_field hx₁ hd h0 (wpAny_bind (wpAny_setField hx₁ hd (by
      have : (0 : Nat) < vs.size := by
        rcases Nat.lt_or_ge 0 vs.size with z | z
        · exact z
        · rw [Array.getElem?_eq_none z] at h0; cases h0
      exact this) ?_))))
    refine wpAny_letGo (wpAny_pure ?_)
    have kp : ∀ b o, b ≠ x → hp.get? b = some o → ((hp.push { cls := .type "tuple", data := .seq [v].toArray }).update x (Obj.mapFields fun y => y.setIfInBounds 0 (.ref hp.objs.size))).get? b = some o := fun b o ne e => (Heap.get?_update_ne _ _ _ _ ne).trans (Heap.get?_push_of_some _ e)
    refine h hp.objs.size _ ?_ kp
    have e := Heap.get?_update_self (Obj.mapFields fun y => y.setIfInBounds 0 (.ref hp.objs.size)) hx₁ (Obj.isFreed_of_fields (Obj.data_mapFields hd _))
    rw [e]
    obtain ⟨oc, od, odt, osl⟩ := ox
    subst hd
    rfl
end
section
variable {prog : Program} {w : World} {A : Around} {E : Value → Shared → Prop} {s : Shared}
theorem osa_exc {x C : Addr} {ox : Obj} {vs : Array Value} {K : Frag} {cd : ClassData} {name : Str} {tk : Tok} {v : Value} {R : Result → Shared → Prop} (X : K.In s.heap) (hx : s.heap.get? x = some ox) (hcls : ox.cls = .ref C) (hdn : ox.dict = none) (hd : ox.data = .fields vs)
    (hc : clsIn K C = some cd) (hhd : cd.hasDict = true) (hob : cd.mro.contains (.type "object") = true) (href : refuseLoop (.ref x) "__setattr__" cd.mro = pure ()) (ht : takerIn K C name = some none)
    (h : ∀ dx h' tk, h'.get? x = some { ox with dict := some dx } → (∀ b o, b ≠ x → s.heap.get? b = some o → h'.get? b = some o) → R (.ok (.ret .none)) { s with heap := h', toks := tk }) :
    codeAny (model prog w) A (.call (.builtin "object.__setattr__") ⟨[.ref x, .str name tk, v], []⟩) R s := by
  have I : InstAt s.heap x ox C none := ⟨hx, hcls, by unfold notCls; rw [hd], by rw [hdn]; trivial⟩
  have SF := PySem.F.store_object
  have ne : cd.mro.isEmpty = false := by cases q : cd.mro with | nil => rw [q] at hob; cases hob | cons _ _ => rfl
  have sub : Looks (model prog w) s.heap (isInstance (.ref x) (.type "object")) true := I.type.andThen (looks_mroIn X (by unfold mroIn; rw [hc, Option.bind_some, if_neg (by rw [ne]; decide), hob]))
  refine codeAny_call_builtin SF.slot.plain SF.entry (@check_slot (model prog w) _ _ s "object.__setattr__" "object" "__setattr__" (.ref x) [.str name tk, v] [] _ SF.kind SF.split sub (SF.args (.ref x) (.str name tk) v) ?_)
  refine ea1_2 (Option.bind_eq_some_iff.mp ht) fun attr ha hr => ?_
  have hm : Looks (model prog w) s.heap (mroOf (.ref C)) cd.mro := (looks_clsIn X hc).andThen .now
  have L3 : Looks (model prog w) s.heap (Builtin.ObjectAttr.storeTaker? attr) none := by
    cases attr with
    | none => exact .now
    | some a =>
      refine ea1_2 (Option.map_eq_some_iff.mp hr) fun b hb hb' => ?_
      refine (looks_takesIn X hb).andThen ?_
      cases b <;> first | exact .now | cases hb'
  rw [osa_eq, refuse_eq]
  refine wpAny_bind (wpAny_bind (I.type.here (wpAny_bind (hm.here ?_))))
  rw [href]
  refine wpAny_pure (wpAny_bind (I.type.here (wpAny_bind ((looks_findIn X ha).here (wpAny_bind (L3.here ?_))))))
  dsimp only
  refine wpAny_bind (wpAny_pure (wpAny_bind (wpAny_bind (wpAny_loadPart hx ?_))))
  obtain ⟨oc, od, odt, osl⟩ := ox
  dsimp only at hcls hdn hd
  subst hcls hdn hd
  refine wpAny_bind ((looks_clsIn X hc).here ?_)
  rw [hhd]
  have hx₁ : (s.heap.push { cls := .type "dict", data := .dict #[] }).get? x = some ⟨.ref C, none, .fields vs, osl⟩ := Heap.get?_push_of_some _ hx
  have hxs : x ≠ s.heap.objs.size := Nat.ne_of_lt (Heap.lt_size hx)
  refine wpAny_bind (wpAny_alloc' (wpAny_bind (wpAny_update' hx₁ (wpAny_pure ?_))))
  have hgd : ((s.heap.push { cls := .type "dict", data := .dict #[] }).update x fun o => { cls := o.cls, dict := some s.heap.objs.size, data := o.data, slots := o.slots }).get? s.heap.objs.size
      = some { cls := .type "dict", data := .dict #[] } := (Heap.get?_update_ne _ _ _ _ hxs.symm).trans (Heap.get?_push_at rfl rfl)
  have hnd : ((s.heap.push { cls := .type "dict", data := .dict #[] }).update x fun o => { cls := o.cls, dict := some s.heap.objs.size, data := o.data, slots := o.slots }).Ns s.heap.objs.size (fun _ => none) :=
    ⟨_, #[], _, hgd, rfl, fun e he => absurd he (by simp), fun _ => rfl⟩
  show wpAny _ _ (Builtin.ObjectAttr.storeInDict s.heap.objs.size (.str name tk) name v) _ _ _
  unfold Builtin.ObjectAttr.storeInDict Builtin.ObjectAttr.newKeyGuard
  refine wpAny_bind (wpAny_pure (wpAny_bind (wpAny_nsSet1EFk (Heap.Ns1.of_empty hnd) fun h' hn' hs hkeepD => ?_)))
  refine ea3_3 (hn'.count (Within.cons name v Within.nil)) fun oD esD epD hoD hdD hcD => ?_
  refine wpAny_bind (wpAny_lookBehind hoD (by rw [hdD]; exact pastItsLine_dict (Nat.le_trans hcD (by rw [List.length_cons, List.length_nil, sizeLine_eq]; lia))) ?_)
  refine wpAny_pure (h s.heap.objs.size h' _ ?_ fun b o ne e => ?_)
  · exact (hs.2 x hxs).trans (Heap.get?_update_self _ hx₁ rfl)
  · exact (hs.2 b (Nat.ne_of_lt (Heap.lt_size e))).trans ((Heap.get?_update_ne _ _ _ _ ne).trans (Heap.get?_push_of_some _ e))
/-- «x.name = v», x an exception without a dict yet -/
theorem sx_setAttr {x C : Addr} {ox : Obj} {vs : Array Value} {K : Frag} {cd : ClassData} {name : Str} {v : Value} {Q : Unit → Shared → Prop} (X : K.In s.heap) (hx : s.heap.get? x = some ox) (hcls : ox.cls = .ref C) (hdn : ox.dict = none) (hd : ox.data = .fields vs)
    (hc : clsIn K C = some cd) (hhd : cd.hasDict = true) (hob : cd.mro.contains (.type "object") = true) (href : refuseLoop (.ref x) "__setattr__" cd.mro = pure ()) (hs : findIn K (.ref C) "__setattr__" = some (some (.builtin "object.__setattr__"))) (ht : takerIn K C name = some none)
    (h : ∀ dx h' tk, h'.get? x = some { ox with dict := some dx } → (∀ b o, b ≠ x → s.heap.get? b = some o → h'.get? b = some o) → Q () { s with heap := h', toks := tk }) :
    wpAny (model prog w) A (setAttr (.ref x) name v) Q E s := by
  have I : InstAt s.heap x ox C none := ⟨hx, hcls, by unfold notCls; rw [hd], by rw [hdn]; trivial⟩
  exact set_plain X I hs (osa_exc (s := { s with toks := s.toks + 1 }) X hx hcls hdn hd hc hhd hob href ht h)
end
local macro_rules | `(tactic| o_new) => `(tactic| repeat (first
  | with_reducible first | refine Exs.cons ?_ | refine Exs.nil ?_ | refine Ex.ret ?_ | refine Ex.if ?_ | refine Ev.binop ?_ | refine Ev.ifexp ?_ | refine Ev.int ?_ | refine Ev.str ?_ | refine Ev.bool ?_ | refine Ev.cnone ?_ | refine Ev.tuple ?_ | refine Ev.list ?_ | refine Ev.sub ?_ | refine Tt.not ?_ | refine Tt.and ?_ | refine Tt.or ?_ | refine Tt.or0 ?_ | refine Tt.and0 ?_ | refine Tt.ifexp ?_ | refine OpB.bool ?_ | refine Evs.nil ?_
  | ((with_reducible show Ex _ _ _ (Stmt.Expr _ _) _ _ _ _ _); refine Ex.expr ?_)
  | ((with_reducible show Tt _ _ _ (Expr.Call _ _ _ _) _ _ _ _); refine Tt.of ?_)
  | ((with_reducible show Evs _ _ _ (_ :: _) _ _ _ _); refine Evs.cons ?_)
  | ((with_reducible show Tt _ _ _ (Expr.Compare _ [_] [_] _) _ _ _ _); refine Tt.cmp ?_)
  | ((with_reducible show Ev _ _ _ (Expr.Compare _ [_] [_] _) _ _ _ _); refine Ev.cmp ?_)
  | ((with_reducible show Ev _ _ _ (Expr.Name _ _) _ _ _ _); refine Ev.name rfl ?_)))
noncomputable abbrev cx (prog : Program) (w : World) (p : Program) (loose : List Str) (mean : ExcName → Option Value) (mg mb : Str → Option Value) : Cx := ⟨prog, w, p, loose, mean, mg, mb, topK w.params⟩
/-- what the tape tells at this spot -/
noncomputable def dipV (cells : List Int) (spot : Nat) (many : Int) : Int := ((cells[spot]?).getD ((9 * (spot : Int) * spot + 4 * spot + 2).fmod 103)).fmod many
noncomputable abbrev iList (l : List Int) : List AV := l.map .int
noncomputable abbrev tapeL (C : Addr) (spot : Nat) : AObj := .list [.val (.ref C), .int (spot : Int)]
section
variable {prog : Program} {w : World} {p : Program} {loose : List Str} {mean : ExcName → Option Value} {mg mb : Str → Option Value}
theorem dip_ok {T C : Addr} {cells : List Int} {spot : Nat} {many : Int} {η : Store} (mT : (T, tapeL C spot) ∈ η) (mC : (C, .list (iList cells)) ∈ η) (hz : cells.length ≤ 1000000) (hs : spot ≤ 100000) (hm : many ≠ 0) :
    FnC (cx prog w p loose mean mg mb) 164 1 [.val (.ref T), .int many] η (fun v η' => v = .int (dipV cells spot many) ∧ η' = put T (tapeL C (spot + 1)) η) Exc.no := by
  refine .nd fun nd => ?_
  have U := Up.put (o' := tapeL C (spot + 1)) nd mT
  have ne : C ≠ T := fun q => by
    subst q
    have := AObj.list.inj (Store.once nd mT mC)
    cases cells <;> cases this
  have mC₂ : (C, .list (iList cells)) ∈ put T (tapeL C (spot + 1)) η := U.other nd mC ne
  refine FnC.enter (body := [_, _, _]) (by with_unfolding_all rfl) (by with_unfolding_all rfl) ["tape", "many"] rfl (fun s _ h => by apply len2.on h; intro _ _; exact .of_eq rfl) (by decide) (by decide) rfl rfl rfl fun g ok => ?_
  refine .cons (.assignTup ok (.inl rfl) (.inl rfl) (.name rfl ⟨_, _, .list mT, ?_⟩))
  refine .cons (.setItem (.binop (.name rfl (.int (Op.add (.name rfl (.int ⟨T, _, _, 1, rfl, rfl, by decide, by exact Nat.lt_succ_self 1, by exact Nat.le_of_ble_eq_true rfl, rfl, _, U, ?_⟩)))))))
  refine .cons (.ret (.binop (.ifexp (.cmp (.name rfl (.callB (.bltn (v := .builtin "len") ok (by with_unfolding_all rfl) (by kernel_rfl) (by decide) ⟨_, rfl, .cons (.name rfl (.nil (Op.lenL mC₂ (by simpa using hz) (Op.lt ⟨_, rfl, fun d => ?_, fun d => ?_⟩))))⟩)))))))
  · have d' : spot < cells.length := by
      have := of_decide_eq_true d
      rw [List.length_map] at this; lia
    refine .sub (.name rfl (.name rfl (Op.itemL (a := .int cells[spot]) mC₂ (by lia) (by simp [d']) (by simpa using hz) (.name rfl (Op.mod hm ⟨?_, rfl⟩)) fun _ _ => ⟨_, rfl⟩)))
    simp [dipV, d']
  · have d' : cells[spot]? = none := by
      have := of_decide_eq_false d
      rw [List.length_map] at this
      rw [List.getElem?_eq_none_iff]; lia
    o_new
    refine Op.mul ?_ (by decide) (by lia)
    o_new
    refine Op.mul ?_ (by lia) (by lia)
    o_new
    refine Op.mul ?_ (by decide) (by lia)
    refine Op.add ?_
    o_new
    refine Op.add ?_
    o_new
    refine Op.mod (by decide) ?_
    o_new
    refine Op.mod hm ⟨?_, rfl⟩
    simp [dipV, d']
end
/-- terms -/
inductive Tm where
  | node (op : Str) (kids : List Tm)
mutual
noncomputable def Tm.av : Tm → AV
  | .node op ks => .tup (.str op :: Tm.avs ks)
noncomputable def Tm.avs : List Tm → List AV
  | [] => []
  | k :: ks => k.av :: Tm.avs ks
end
mutual
noncomputable def Tm.h : Tm → Nat
  | .node _ ks => Tm.hs ks + 1
noncomputable def Tm.hs : List Tm → Nat
  | [] => 0
  | k :: ks => max k.h (Tm.hs ks)
end
mutual
noncomputable def Tm.size : Tm → Nat
  | .node _ ks => Tm.sizes ks + 1
noncomputable def Tm.sizes : List Tm → Nat
  | [] => 0
  | k :: ks => k.size + Tm.sizes ks
end
theorem Tm.avs_map (l : List Tm) : Tm.avs l = l.map Tm.av := by
  induction l with
  | nil => rfl
  | cons k ks ih => rw [Tm.avs, ih, List.map_cons]
theorem Tm.avs_length (l : List Tm) : (Tm.avs l).length = l.length := by rw [Tm.avs_map, List.length_map]
theorem Tm.h_mem : ∀ {l : List Tm} {t : Tm}, t ∈ l → t.h ≤ Tm.hs l
  | k :: ks, t, h => by
    rw [Tm.hs]
    rcases List.mem_cons.mp h with rfl | h
    · exact Nat.le_max_left _ _
    · exact Nat.le_trans (Tm.h_mem h) (Nat.le_max_right _ _)
theorem Tm.size_mem : ∀ {l : List Tm} {t : Tm}, t ∈ l → t.size ≤ Tm.sizes l
  | k :: ks, t, h => by
    rw [Tm.sizes]
    rcases List.mem_cons.mp h with rfl | h
    · lia
    · have := Tm.size_mem h; lia
theorem Tm.length_le : ∀ l : List Tm, l.length ≤ Tm.sizes l
  | [] => Nat.zero_le _
  | k :: ks => by
    rw [Tm.sizes, List.length_cons]
    have := Tm.length_le ks
    cases k; rw [Tm.size]; lia

mutual
/-- no bool in it, no object -/
noncomputable def AV.nb : AV → Bool
  | .none | .int _ => true
  | .str x => PyData.strOk x
  | .tup l => AV.nbs l
  | _ => false
noncomputable def AV.nbs : List AV → Bool
  | [] => true
  | a :: l => a.nb && AV.nbs l
end
mutual
noncomputable def AV.dep : AV → Nat
  | .tup l => AV.deps l + 1
  | _ => 0
noncomputable def AV.deps : List AV → Nat
  | [] => 0
  | a :: l => max a.dep (AV.deps l)
end
mutual
noncomputable def AV.wt : AV → Nat
  | .tup l => AV.wts l + 1
  | _ => 1
noncomputable def AV.wts : List AV → Nat
  | [] => 0
  | a :: l => a.wt + AV.wts l
end
mutual
theorem AV.nb_pure : ∀ {a : AV}, a.nb = true → a.pure = true
  | .none, _ | .int _, _ | .str _, _ => rfl
  | .tup l, h => AV.nbs_pures (l := l) h
theorem AV.nbs_pures : ∀ {l : List AV}, AV.nbs l = true → AV.pures l = true
  | [], _ => rfl
  | a :: l, h => by
    rw [AV.nbs, Bool.and_eq_true] at h
    rw [AV.pures, AV.nb_pure h.1, AV.nbs_pures h.2]; rfl
end
mutual
theorem AV.nb_lay : ∀ {a : AV}, a.nb = true → a.pd.canLay0 = true ∧ a.pd.depth ≤ a.dep
  | .none, _ | .int _, _ => ⟨rfl, Nat.le_refl _⟩
  | .str x, h => by
    rw [AV.nb] at h
    rw [AV.pd, PyData.canLay0]
    exact ⟨h, Nat.le_of_eq rfl⟩
  | .tup l, h => by
    have := AV.nbs_lay (l := l) h
    rw [AV.pd, AV.dep]
    refine ⟨?_, ?_⟩
    · simp only [PyData.canLay0]; exact this.1
    · simp only [PyData.depth]; lia
theorem AV.nbs_lay : ∀ {l : List AV}, AV.nbs l = true → PyData.canLayAll0 (AV.pds l) = true ∧ PyData.depthAll (AV.pds l) ≤ AV.deps l
  | [], _ => ⟨rfl, Nat.le_refl _⟩
  | a :: l, h => by
    rw [AV.nbs, Bool.and_eq_true] at h
    have h1 := AV.nb_lay h.1
    have h2 := AV.nbs_lay h.2
    rw [AV.pds, AV.deps]
    refine ⟨?_, ?_⟩
    · simp only [PyData.canLayAll0, h1.1, h2.1]; rfl
    · simp only [PyData.depthAll]; lia
end
theorem AV.sh {a : AV} (h : a.nb = true) (k : a.dep ≤ 50) : Sh a.pd := ⟨(AV.nb_lay h).1, Nat.le_trans (AV.nb_lay h).2 k⟩
theorem AV.shs {l : List AV} (h : AV.nbs l = true) (k : AV.deps l ≤ 50) : Shs (AV.pds l) := ⟨(AV.nbs_lay h).1, Nat.le_trans (AV.nbs_lay h).2 k⟩
mutual
theorem AV.nb_eqv : ∀ {a b : AV}, a.nb = true → b.nb = true → (PyData.eqv a.pd b.pd = true ↔ a = b)
  | .none, b, _, hb => by cases b <;> simp_all [AV.nb, AV.pd, PyData.eqv]
  | .int i, b, _, hb => by cases b <;> simp_all [AV.nb, AV.pd, PyData.eqv]
  | .str x, b, _, hb => by cases b <;> simp_all [AV.nb, AV.pd, PyData.eqv]
  | .tup l, b, ha, hb => by
    cases b with
    | tup k =>
      have := AV.nbs_eqv (l := l) (k := k) ha hb
      simp only [AV.pd, PyData.eqv, this, AV.tup.injEq]
    | _ => simp_all [AV.nb, AV.pd, PyData.eqv]
theorem AV.nbs_eqv : ∀ {l k : List AV}, AV.nbs l = true → AV.nbs k = true → (PyData.eqvAll (AV.pds l) (AV.pds k) = true ↔ l = k)
  | [], [], _, _ => by simp [AV.pds, PyData.eqvAll]
  | [], _ :: _, _, _ => by simp [AV.pds, PyData.eqvAll]
  | _ :: _, [], _, _ => by simp [AV.pds, PyData.eqvAll]
  | a :: l, b :: k, ha, hb => by
    rw [AV.nbs, Bool.and_eq_true] at ha hb
    simp only [AV.pds, PyData.eqvAll, Bool.and_eq_true, AV.nb_eqv ha.1 hb.1, AV.nbs_eqv ha.2 hb.2, List.cons.injEq]
end
theorem eqv_dec {a b : AV} (ha : a.nb = true) (hb : b.nb = true) [Decidable (a = b)] : PyData.eqv a.pd b.pd = decide (a = b) := by
  have := AV.nb_eqv ha hb
  by_cases q : a = b
  · rw [decide_eq_true q]; exact this.mpr q
  · rw [decide_eq_false q]
    cases z : PyData.eqv a.pd b.pd with
    | false => rfl
    | true => exact absurd (this.mp z) q
theorem any_eqv {a : AV} {l : List AV} (ha : a.nb = true) (hl : AV.nbs l = true) : (((AV.pds l).any fun y => PyData.eqv y a.pd) = true ↔ a ∈ l) := by
  induction l with
  | nil => simp [AV.pds]
  | cons b l ih =>
    rw [AV.nbs, Bool.and_eq_true] at hl
    rw [AV.pds, List.any_cons, Bool.or_eq_true, ih hl.2, AV.nb_eqv hl.1 ha, List.mem_cons]
    constructor
    · rintro (h | h)
      · exact .inl h.symm
      · exact .inr h
    · rintro (h | h)
      · exact .inl h.symm
      · exact .inr h
theorem AV.nbs_iff {l : List AV} : AV.nbs l = true ↔ ∀ a ∈ l, a.nb = true := by
  induction l with
  | nil => simp [AV.nbs]
  | cons a l ih => rw [AV.nbs, Bool.and_eq_true, ih]; simp
theorem AV.deps_le {l : List AV} {n : Nat} : AV.deps l ≤ n ↔ ∀ a ∈ l, a.dep ≤ n := by
  induction l with
  | nil => simp [AV.deps]
  | cons a l ih => rw [AV.deps, Nat.max_le, ih]; simp
theorem AV.wts_append (l k : List AV) : AV.wts (l ++ k) = AV.wts l + AV.wts k := by
  induction l with
  | nil => simp [AV.wts]
  | cons a l ih => rw [List.cons_append, AV.wts, AV.wts, ih]; lia
theorem AV.wts_reverse (l : List AV) : AV.wts l.reverse = AV.wts l := by
  induction l with
  | nil => rfl
  | cons a l ih => rw [List.reverse_cons, AV.wts_append, ih]; simp only [AV.wts]; lia
theorem AV.wt_pos (a : AV) : 1 ≤ a.wt := by cases a <;> simp [AV.wt]
theorem AV.length_le (l : List AV) : l.length ≤ AV.wts l := by
  induction l with
  | nil => simp
  | cons a l ih => have := a.wt_pos; rw [List.length_cons, AV.wts]; lia
mutual
noncomputable def Tm.ok : Tm → Bool
  | .node op ks => PyData.strOk op && Tm.oks ks
noncomputable def Tm.oks : List Tm → Bool
  | [] => true
  | k :: ks => k.ok && Tm.oks ks
end
theorem Tm.oks_iff {l : List Tm} : Tm.oks l = true ↔ ∀ t ∈ l, t.ok = true := by
  induction l with
  | nil => simp [Tm.oks]
  | cons a l ih => rw [Tm.oks, Bool.and_eq_true, ih]; simp
mutual
theorem Tm.av_nb : ∀ t : Tm, t.ok = true → t.av.nb = true
  | .node op ks, h => by
    rw [Tm.ok, Bool.and_eq_true] at h
    rw [Tm.av, AV.nb, AV.nbs, AV.nb, h.1, Tm.avs_nb ks h.2]; rfl
theorem Tm.avs_nb : ∀ l : List Tm, Tm.oks l = true → AV.nbs (Tm.avs l) = true
  | [], _ => rfl
  | k :: ks, h => by
    rw [Tm.oks, Bool.and_eq_true] at h
    rw [Tm.avs, AV.nbs, Tm.av_nb k h.1, Tm.avs_nb ks h.2]; rfl
end
mutual
theorem Tm.av_dep : ∀ t : Tm, t.av.dep = t.h
  | .node op ks => by rw [Tm.av, AV.dep, AV.deps, Tm.avs_dep ks, Tm.h]; simp [AV.dep]
theorem Tm.avs_dep : ∀ l : List Tm, AV.deps (Tm.avs l) = Tm.hs l
  | [] => rfl
  | k :: ks => by rw [Tm.avs, AV.deps, Tm.av_dep k, Tm.avs_dep ks, Tm.hs]
end
mutual
theorem Tm.av_inj : ∀ {t u : Tm}, t.av = u.av → t = u
  | .node op ks, .node op' ks', h => by
    rw [Tm.av, Tm.av, AV.tup.injEq, List.cons.injEq, AV.str.injEq] at h
    rw [h.1, Tm.avs_inj h.2]
theorem Tm.avs_inj : ∀ {l k : List Tm}, Tm.avs l = Tm.avs k → l = k
  | [], [], _ => rfl
  | [], _ :: _, h => by simp [Tm.avs] at h
  | _ :: _, [], h => by simp [Tm.avs] at h
  | t :: l, u :: k, h => by
    rw [Tm.avs, Tm.avs, List.cons.injEq] at h
    rw [Tm.av_inj h.1, Tm.avs_inj h.2]
end
noncomputable def AV.isNone : AV → Bool
  | .none => true
  | _ => false
noncomputable def revV : AV → AV
  | .tup l => .tup l.reverse
  | _ => .none
noncomputable def consV (x : AV) : AV → AV
  | .tup l => if x.isNone then .none else .tup (x :: l)
  | _ => .none
noncomputable def appV2 (l : List AV) : AV → AV
  | .tup k => .tup (l ++ k)
  | _ => .none
noncomputable def appV : AV → AV → AV
  | .tup l, y => appV2 l y
  | _, _ => .none
/-- what a node's value is, its kids' values known -/
noncomputable def nodeV (env : Str → AV) (op : Str) : List AV → AV
  | [] => if op = Str.ofString "nil" then .tup [] else env op
  | [x] => if op = Str.ofString "rev" then revV x else .none
  | [x, y] => if op = Str.ofString "cons" then consV x y else if op = Str.ofString "app" then appV x y else .none
  | _ => .none
mutual
noncomputable def lval (env : Str → AV) : Tm → AV
  | .node op ks => nodeV env op (lvals env ks)
noncomputable def lvals (env : Str → AV) : List Tm → List AV
  | [] => []
  | k :: ks => lval env k :: lvals env ks
end
theorem lvals_map (env : Str → AV) (l : List Tm) : lvals env l = l.map (lval env) := by
  induction l with
  | nil => rfl
  | cons k ks ih => rw [lvals, ih, List.map_cons]
/-- values: ints and tuples of them, or none -/
noncomputable def AV.isV : AV → Bool
  | .none | .int _ => true
  | .tup _ => true
  | _ => false
structure EnvV (env : Str → AV) (d w : Nat) : Prop where
  nb : ∀ x, (env x).nb = true
  v : ∀ x, (env x).isV = true
  dep : ∀ x, (env x).dep ≤ d
  wt : ∀ x, (env x).wt ≤ w
theorem AV.deps_reverse (l : List AV) : AV.deps l.reverse = AV.deps l := by
  apply Nat.le_antisymm
  · exact AV.deps_le.mpr fun a h => AV.deps_le.mp (Nat.le_refl _) a (List.mem_reverse.mp h)
  · exact AV.deps_le.mpr fun a h => AV.deps_le.mp (Nat.le_refl _) a (List.mem_reverse.mpr h)
theorem AV.nbs_reverse (l : List AV) : AV.nbs l.reverse = AV.nbs l := by
  rw [Bool.eq_iff_iff, AV.nbs_iff, AV.nbs_iff]; simp
theorem AV.deps_append (l k : List AV) : AV.deps (l ++ k) = max (AV.deps l) (AV.deps k) := by
  induction l with
  | nil => simp [AV.deps]
  | cons a l ih => rw [List.cons_append, AV.deps, AV.deps, ih, Nat.max_assoc]
theorem AV.nbs_append (l k : List AV) : AV.nbs (l ++ k) = (AV.nbs l && AV.nbs k) := by
  induction l with
  | nil => simp [AV.nbs]
  | cons a l ih => rw [List.cons_append, AV.nbs, AV.nbs, ih, Bool.and_assoc]
noncomputable def VOk (n w : Nat) (v : AV) : Prop := v.nb = true ∧ v.isV = true ∧ v.dep ≤ n ∧ v.wt ≤ w
theorem VOk.none {n w : Nat} (h : 1 ≤ w) : VOk n w .none := ⟨by simp only [AV.nb], rfl, by simp only [AV.dep]; lia, by simp only [AV.wt]; lia⟩
theorem VOk.tup {n w : Nat} {l : List AV} (h1 : AV.nbs l = true) (h2 : AV.deps l + 1 ≤ n) (h3 : AV.wts l + 1 ≤ w) : VOk n w (.tup l) := ⟨by rw [AV.nb]; exact h1, rfl, by rw [AV.dep]; lia, by rw [AV.wt]; lia⟩
theorem VOk.tupI {n w : Nat} {l : List AV} (h : VOk n w (.tup l)) : AV.nbs l = true ∧ AV.deps l + 1 ≤ n ∧ AV.wts l + 1 ≤ w := by
  refine ea0_4 h fun h1 _ h2 h3 => ?_; try clear h
  rw [AV.nb] at h1; rw [AV.dep] at h2; rw [AV.wt] at h3
  exact ⟨h1, h2, h3⟩
theorem revV_ok {n w : Nat} {x : AV} (h : VOk n w x) (hw : 1 ≤ w) : VOk n w (revV x) := by
  cases x with
  | tup l =>
    refine ea0_3 (h.tupI) fun a1 a2 a3 => ?_
    exact .tup (by rw [AV.nbs_reverse]; exact a1) (by rw [AV.deps_reverse]; lia) (by rw [AV.wts_reverse]; exact a3)
  | _ => exact .none hw
theorem consV_ok {n w w' : Nat} {x y : AV} (h : VOk n w x) (k : VOk n w' y) : VOk (n + 1) (w + w' + 1) (consV x y) := by
  cases y with
  | tup l =>
    refine ea0_3 (k.tupI) fun a1 a2 a3 => ?_
    rw [consV]
    split
    · exact .none (by lia)
    · exact .tup (by rw [AV.nbs, h.1, a1]; rfl) (by rw [AV.deps]; have := h.2.2.1; lia) (by rw [AV.wts]; have := h.2.2.2; lia)
  | _ => exact .none (by lia)
theorem appV_ok {n w w' : Nat} {x y : AV} (h : VOk n w x) (k : VOk n w' y) : VOk n (w + w' + 1) (appV x y) := by
  cases x with
  | tup l =>
    cases y with
    | tup m =>
      refine ea0_3 (h.tupI) fun a1 a2 a3 => ?_
      refine ea0_3 (k.tupI) fun b1 b2 b3 => ?_
      exact .tup (by rw [AV.nbs_append, a1, b1]; rfl) (by rw [AV.deps_append]; lia) (by rw [AV.wts_append]; lia)
    | _ => exact .none (by lia)
  | _ => exact .none (by lia)
theorem VOk.le {n w n' w' : Nat} {v : AV} (h : VOk n w v) (h1 : n ≤ n') (h2 : w ≤ w') : VOk n' w' v := ⟨h.1, h.2.1, Nat.le_trans h.2.2.1 h1, Nat.le_trans h.2.2.2 h2⟩
theorem nodeV_ok {env : Str → AV} {d w n : Nat} (he : EnvV env d w) (op : Str) (vs : List AV) (h1 : ∀ v ∈ vs, v.nb = true ∧ v.isV = true ∧ v.dep ≤ n) (hd : d ≤ n + 1) : VOk (n + 1) (AV.wts vs + w + 1) (nodeV env op vs) := by
  have no : VOk (n + 1) (AV.wts vs + w + 1) .none := .none (by lia)
  have at_ : ∀ v ∈ vs, VOk n v.wt v := fun v hv => ⟨(h1 v hv).1, (h1 v hv).2.1, (h1 v hv).2.2, Nat.le_refl _⟩
  match vs, at_, no with
  | [], _, no =>
    rw [nodeV]
    split
    · exact .tup rfl (by simp [AV.deps]) (by simp [AV.wts])
    · exact ⟨he.nb _, he.v _, Nat.le_trans (he.dep _) hd, Nat.le_trans (he.wt _) (by rw [AV.wts]; lia)⟩
  | [x], a, no =>
    have := a x List.mem_cons_self
    rw [nodeV]
    split
    · exact (revV_ok this x.wt_pos).le (by lia) (by simp only [AV.wts]; lia)
    · exact no
  | [x, y], a, no =>
    have hx := a x List.mem_cons_self
    have hy := a y (List.mem_cons_of_mem _ List.mem_cons_self)
    rw [nodeV]
    split
    · exact (consV_ok hx hy).le (by lia) (by simp only [AV.wts]; lia)
    · split
      · exact (appV_ok hx hy).le (by lia) (by simp only [AV.wts]; lia)
      · exact no
  | _ :: _ :: _ :: _, _, no => exact no
mutual
theorem lval_ok {env : Str → AV} {d w : Nat} (he : EnvV env d w) : ∀ t : Tm, VOk (t.h + d) (t.size * (w + 1)) (lval env t)
  | .node op ks => by
    rw [lval, Tm.h, Tm.size]
    have ih := lvals_ok he ks
    have := nodeV_ok (n := Tm.hs ks + d) he op (lvals env ks) ih.1 (by lia)
    refine ⟨this.1, this.2.1, Nat.le_trans this.2.2.1 (by lia), Nat.le_trans this.2.2.2 ?_⟩
    have := ih.2
    rw [Nat.add_mul]; lia
theorem lvals_ok {env : Str → AV} {d w : Nat} (he : EnvV env d w) : ∀ ks : List Tm, (∀ v ∈ lvals env ks, v.nb = true ∧ v.isV = true ∧ v.dep ≤ Tm.hs ks + d) ∧ AV.wts (lvals env ks) ≤ Tm.sizes ks * (w + 1)
  | [] => ⟨by simp [lvals], by simp [lvals, AV.wts]⟩
  | k :: ks => by
    have h1 := lval_ok he k
    have h2 := lvals_ok he ks
    rw [lvals, Tm.hs, Tm.sizes, AV.wts, Nat.add_mul]
    refine ⟨fun v hv => ?_, Nat.add_le_add h1.2.2.2 h2.2⟩
    rcases List.mem_cons.mp hv with rfl | hv
    · exact ⟨h1.1, h1.2.1, Nat.le_trans h1.2.2.1 (by lia)⟩
    · refine ea0_3 (h2.1 v hv) fun a b e => ?_; exact ⟨a, b, by lia⟩
end

mutual
/-- the term that a value is -/
noncomputable def tmOf : AV → Tm
  | .tup (.str op :: ks) => .node op (tmsOf ks)
  | _ => .node default []
noncomputable def tmsOf : List AV → List Tm
  | [] => []
  | k :: ks => tmOf k :: tmsOf ks
end
mutual
theorem tmOf_av : ∀ t : Tm, tmOf t.av = t
  | .node op ks => by rw [Tm.av, tmOf, tmsOf_avs ks]
theorem tmsOf_avs : ∀ l : List Tm, tmsOf (Tm.avs l) = l
  | [] => rfl
  | k :: ks => by rw [Tm.avs, tmsOf, tmOf_av k, tmsOf_avs ks]
end
theorem map_avs {g : AV → AV} {h : Tm → AV} : ∀ {l : List Tm}, (∀ t, g t.av = h t) → (Tm.avs l).map g = l.map h
  | [], _ => rfl
  | k :: ks, e => by rw [Tm.avs, List.map_cons, List.map_cons, e k, map_avs e]

theorem bl {n : Nat} (h : Nat.ble n 1000000 = true := by rfl) : n ≤ 1000000 := Nat.le_of_ble_eq_true h
theorem Sh.list {ds : List PyData} (h : PyData.canLayAll0 ds = true) (k : PyData.depthAll ds ≤ 49) : Sh (.list ds) := ⟨by rw [PyData.canLay0]; exact h, by rw [PyData.depth]; lia⟩
theorem Sh.tup {ds : List PyData} (h : PyData.canLayAll0 ds = true) (k : PyData.depthAll ds ≤ 49) : Sh (.tuple ds) := ⟨by rw [PyData.canLay0]; exact h, by rw [PyData.depth]; lia⟩
theorem eqv_list0 (l : List AV) : PyData.eqv (.list (AV.pds l)) (.list (AV.pds [])) = l.isEmpty := by cases l <;> rfl
theorem eqv_str (a b : Str) : PyData.eqv (AV.str a).pd (AV.str b).pd = (a == b) := by simp [AV.pd, PyData.eqv]
theorem Sh.str {x : Str} (h : PyData.strOk x = true) : Sh (AV.str x).pd := AV.sh (by rw [AV.nb]; exact h) (by simp [AV.dep])
theorem Sh.int {x : Int} : Sh (AV.int x).pd := AV.sh (by simp [AV.nb]) (by simp [AV.dep])
theorem Sh.none : Sh AV.none.pd := AV.sh (by simp [AV.nb]) (by simp [AV.dep])

theorem opn_eqv (op : Str) (n : Nat) (k : Str) (m : Int) : PyData.eqv (AV.tup [.str k, .int m]).pd (AV.tup [.str op, .int n]).pd = (k == op && m == (n : Int)) := by
  simp [AV.pd, AV.pds, PyData.eqv, PyData.eqvAll]
/-- the menu of the ops -/
theorem menu_eqv (op : Str) (n : Nat) : ((AV.pds [.tup [.str (Str.ofString "cons"), .int 2], .tup [.str (Str.ofString "app"), .int 2], .tup [.str (Str.ofString "rev"), .int 1]]).any fun y => PyData.eqv y (AV.tup [.str op, .int (n : Int)]).pd) =
    ((Str.ofString "cons" == op && (2 : Int) == (n : Int)) || ((Str.ofString "app" == op && (2 : Int) == (n : Int)) || (Str.ofString "rev" == op && (1 : Int) == (n : Int)))) := by
  simp only [AV.pds, List.any_cons, List.any_nil, opn_eqv, Bool.or_false]

theorem menu_cases {op : Str} {vs : List AV} (h : ((Str.ofString "cons" == op && (2 : Int) == (vs.length : Int)) || ((Str.ofString "app" == op && (2 : Int) == (vs.length : Int)) || (Str.ofString "rev" == op && (1 : Int) == (vs.length : Int)))) = true) :
    (op = Str.ofString "cons" ∧ ∃ x y, vs = [x, y]) ∨ (op = Str.ofString "app" ∧ ∃ x y, vs = [x, y]) ∨ (op = Str.ofString "rev" ∧ ∃ x, vs = [x]) := by
  simp only [Bool.or_eq_true, Bool.and_eq_true, beq_iff_eq] at h
  rcases h with ⟨h1, h2⟩ | ⟨h1, h2⟩ | ⟨h1, h2⟩
  · exact .inl ⟨h1.symm, len2 (by lia)⟩
  · exact .inr (.inl ⟨h1.symm, len2 (by lia)⟩)
  · exact .inr (.inr ⟨h1.symm, len1 (by lia)⟩)
theorem nodeV_off {env : Str → AV} {op : Str} {vs : List AV} (hn : vs ≠ []) (h : ((Str.ofString "cons" == op && (2 : Int) == (vs.length : Int)) || ((Str.ofString "app" == op && (2 : Int) == (vs.length : Int)) || (Str.ofString "rev" == op && (1 : Int) == (vs.length : Int)))) = false) : nodeV env op vs = .none := by
  simp only [Bool.or_eq_false_iff, Bool.and_eq_false_iff, beq_eq_false_iff_ne] at h
  refine ea0_3 h fun h1 h2 h3 => ?_; try clear h
  match vs, hn with
  | [x], _ =>
    rw [nodeV, if_neg]
    rintro rfl
    exact h3.elim (fun q => q rfl) fun q => q rfl
  | [x, y], _ =>
    rw [nodeV, if_neg, if_neg]
    · rintro rfl
      exact h2.elim (fun q => q rfl) fun q => q rfl
    · rintro rfl
      exact h1.elim (fun q => q rfl) fun q => q rfl
  | _ :: _ :: _ :: _, _ => rfl
theorem nodeV_noneIn {env : Str → AV} {op : Str} {vs : List AV} (h : AV.none ∈ vs) : nodeV env op vs = .none := by
  match vs, h with
  | [x], h =>
    rw [List.mem_singleton] at h; subst h
    rw [nodeV]; split <;> rfl
  | [x, y], h =>
    rw [nodeV]
    rcases List.mem_cons.mp h with rfl | h
    · split
      · cases y <;> rfl
      · split <;> rfl
    · rw [List.mem_singleton] at h; subst h
      split
      · rfl
      · split
        · cases x <;> rfl
        · rfl
  | _ :: _ :: _ :: _, _ => rfl
theorem filter_int {vs : List AV} (h : (vs.filter fun a => !a.isTup).isEmpty = false) : ∃ x ∈ vs, x.isTup = false := by
  cases q : vs.filter (fun a => !a.isTup) with
  | nil => rw [q] at h; cases h
  | cons a r =>
    have : a ∈ vs.filter (fun a => !a.isTup) := q ▸ List.mem_cons_self
    rw [List.mem_filter] at this
    exact ⟨a, this.1, by simpa using this.2⟩
theorem nodeV_int {env : Str → AV} {op : Str} {vs : List AV} (hc : op ≠ Str.ofString "cons") (hn : vs ≠ []) (h : ∃ x ∈ vs, x.isTup = false) : nodeV env op vs = .none := by
  refine ea1_2 h fun x hx ht => ?_; try clear h
  match vs, hx, hn with
  | [y], hx, _ =>
    rw [List.mem_singleton] at hx; subst hx
    rw [nodeV]; split
    · cases x <;> first | rfl | cases ht
    · rfl
  | [y, z], hx, _ =>
    rw [nodeV, if_neg hc]
    split
    · rcases List.mem_cons.mp hx with rfl | hx
      · cases x <;> first | rfl | cases ht
      · rw [List.mem_singleton] at hx; subst hx
        cases y <;> first | rfl | (cases x <;> first | rfl | cases ht)
    · rfl
  | _ :: _ :: _ :: _, _, _ => rfl
theorem isTup_cases {a : AV} (h : a.isTup = true) : ∃ l, a = .tup l := by cases a <;> first | exact ⟨_, rfl⟩ | cases h
/-- the kth from behind -/
noncomputable def backOf (l : List AV) : AV → AV
  | .int k => l.getD (l.length - 1 - k.toNat) .none
  | _ => .none
theorem rev_pick (l : List AV) : ((List.range l.length).map fun (i : Nat) => AV.int (i : Int)).map (backOf l) = l.reverse := by
  rw [List.map_map]
  apply List.ext_getElem?
  intro i
  rw [List.getElem?_map]
  by_cases h : i < l.length
  · rw [List.getElem?_range h, List.getElem?_reverse h]
    simp only [Option.map_some, Function.comp_apply, backOf, Int.toNat_natCast]
    rw [List.getD_eq_getElem?_getD]
    have : l.length - 1 - i < l.length := by lia
    simp [this]
  · rw [List.getElem?_eq_none (by simpa using h), List.getElem?_eq_none (by simpa using h)]; rfl
theorem isV_cases {a : AV} (h : a.isV = true) (hn : a ≠ .none) : (∃ i, a = .int i) ∨ ∃ l, a = .tup l := by
  cases a with
  | none => exact absurd rfl hn
  | int i => exact .inl ⟨i, rfl⟩
  | tup l => exact .inr ⟨l, rfl⟩
  | _ => cases h
theorem pd_any_none {vs : List AV} (h : AV.nbs vs = true) : (((AV.pds vs).any fun y => PyData.eqv y AV.none.pd) = true ↔ AV.none ∈ vs) := any_eqv (by simp [AV.nb]) h
section
variable {prog : Program} {w : World} {p : Program} {loose : List Str} {mean : ExcName → Option Value} {mg mb : Str → Option Value}
noncomputable def envOf2 (kvs : List (Str × AV)) (x : Str) : AV := (kvs.lookup x).getD .none
theorem val_ok {D : Addr} {kvs : List (Str × AV)} (lo : (D == sysModules) = false) (he : EnvV (envOf2 kvs) 5 1000) : ∀ (n : Nat) (t : Tm) (η : Store), t.h ≤ n → n ≤ 40 → t.size ≤ 500 → t.ok = true → (D, .dict kvs) ∈ η →
    FnC (cx prog w p loose mean mg mb) 169 n [t.av, .val (.ref D)] η (fun v η' => v = lval (envOf2 kvs) t ∧ η' = η) Exc.no := by
  intro n
  induction n with
  | zero => intro t η h; cases t; simp [Tm.h] at h
  | succ n ih =>
    intro t η h hn hz hok mD
    obtain ⟨op, ks⟩ := t
    refine .same (FnC.enter (body := [_, _, _, _, _, _, _, _]) (by with_unfolding_all rfl) (by with_unfolding_all rfl) ["term", "known"] rfl (fun s _ h => by apply len2.on h; intro _ _; exact .of_eq rfl) (by decide) (by decide) rfl rfl rfl fun g ok => ?_)
    rw [Tm.av]
    have ol : (AV.str op :: Tm.avs ks).length ≤ 1000000 := by
      rw [List.length_cons, Tm.avs_length]; have := Tm.length_le ks; rw [Tm.size] at hz; lia
    refine .cons (.assignSw ok (names := ["op", "kids"]) (List.forall_mem_cons.mpr ⟨.inl rfl, List.forall_mem_cons.mpr ⟨.inl rfl, nofun⟩⟩) ?_)
    o_new
    refine Op.itemT (a := .str op) (by decide) rfl ol ?_ fun _ _ => ⟨_, rfl⟩
    o_new
    refine Ev.comp (ρ' := [("known", .val (.ref D))]) (n := n) ok rfl (by decide) rfl (by decide) (by decide) ?hρ ?_
    case hρ => exact fun C => lk1 ⟨rfl, rfl, rfl, rfl⟩ lk0
    o_new
    refine Ev.sliceFrom fun D' tk => ?_
    refine Op.sliceTFrom (l := .str op :: Tm.avs ks) (a := 1) (by decide) (by simp) ol ⟨_, _, _, .tup, ?_⟩ fun _ _ => ⟨_, rfl⟩
    refine ⟨.none, ?_, fun C => ?_⟩
    · rw [List.drop_one, List.tail_cons]; rw [List.length_cons] at ol; lia
    have hv := lvals_ok he ks
    have hh : Tm.hs ks ≤ n := by rw [Tm.h] at h; lia
    have okk : ∀ k ∈ ks, k.ok = true := by
      rw [Tm.ok, Bool.and_eq_true] at hok; exact Tm.oks_iff.mp hok.2
    have opk : PyData.strOk op = true := by rw [Tm.ok, Bool.and_eq_true] at hok; exact hok.1
    have hvl : (lvals (envOf2 kvs) ks).length = ks.length := by rw [lvals_map, List.length_map]
    have hvz : AV.wts (lvals (envOf2 kvs) ks) ≤ 1000000 := by
      have := hv.2
      have h2 : Tm.sizes ks * (1000 + 1) ≤ 500 * 1001 := Nat.mul_le_mul_right _ (by rw [Tm.size] at hz; lia)
      lia
    have hkz : ks.length ≤ 500 := by have := Tm.length_le ks; rw [Tm.size] at hz; lia
    refine .map (fun a => lval (envOf2 kvs) (tmOf a)) .none (fun d hd => ?_) ?_
    · rw [List.drop_one, List.tail_cons, Tm.avs_map] at hd
      refine ea1_2 (List.mem_map.mp hd) fun k hk yq2 => ?_; subst yq2
      refine ⟨_, .name rfl rfl, ?_⟩
      refine .callK ok (.glob (v := .ref 169) ok (by with_unfolding_all rfl) ⟨169, rfl, by with_unfolding_all rfl, ?_⟩)
      o_new
      rw [tmOf_av]
      have hks := Tm.size_mem hk
      exact Op.fn ok (ih k η (Nat.le_trans (Tm.h_mem hk) hh) (by lia) (by rw [Tm.size] at hz; lia) (okk k hk) mD) (Nat.le_refl _)
    intro D₁
    rw [List.nil_append, List.drop_one, List.tail_cons, map_avs (fun t => by rw [tmOf_av]), ← lvals_map]
    o_new
    refine ⟨bl, _, rfl, .tup, ?_⟩
    have m₁ : ∀ {η₁ : Store}, (D₁, AObj.list (lvals (envOf2 kvs) ks)) ∈ (D₁, AObj.list (lvals (envOf2 kvs) ks)) :: η₁ := List.mem_cons_self
    have nbv : AV.nbs (lvals (envOf2 kvs) ks) = true := AV.nbs_iff.mpr fun a ha => (hv.1 a ha).1
    have dpv : AV.deps (lvals (envOf2 kvs) ks) ≤ 45 := AV.deps_le.mpr fun a ha => by have := (hv.1 a ha).2.2; lia
    rw [lval]
    generalize lvals (envOf2 kvs) ks = vs at *
    o_new
    refine ⟨bl, fun D₂ => ?_⟩
    have lay := AV.nbs_lay nbv
    refine Op.eq ok (.list (List.mem_cons_of_mem _ m₁) (AV.nbs_pures nbv)) (.list List.mem_cons_self rfl) (.list lay.1 (by lia)) ⟨rfl, by decide⟩ ⟨_, rfl, fun b => ?_, fun b => ?_⟩
    · rw [eqv_list0, List.isEmpty_iff] at b
      subst b
      o_new
      refine Op.eq ok (.here rfl) (.here rfl) (.str opk) (.str (by decide +kernel)) ⟨_, rfl, fun b => ?_, fun b => ?_⟩
      · rw [eqv_str, beq_iff_eq] at b
        o_new
        refine ⟨bl, ?_, ?_⟩
        · rw [nodeV, if_pos b]
        · intro p hp; simp [hp]
      · rw [eqv_str, beq_eq_false_iff_ne] at b
        refine .methB ?_
        o_new
        refine ⟨_, _, .dict (l := kvs) ?_ F.slot_dict_get F.type_dict_get, ?_⟩
        · simp [mD]
        o_new
        refine Op.dictGet (l := kvs) ?_ lo ⟨?_, ?_⟩
        · simp [mD]
        · rw [nodeV, if_neg b]; rfl
        · intro p hp; simp [hp]
    · rw [eqv_list0] at b
      have vne : vs ≠ [] := fun q => by rw [q] at b; cases b
      have mk : (D₁, AObj.list vs) ∈ (D₂, AObj.list []) :: (D₁, AObj.list vs) :: η := List.mem_cons_of_mem _ List.mem_cons_self
      have vz : vs.length ≤ 1000 := by rw [hvl]; lia
      o_new
      refine Ev.callB (Ev.bltn (v := .builtin "len") ok (by with_unfolding_all rfl) (by kernel_rfl) (by decide) ⟨_, rfl, ?_⟩)
      o_new
      refine Op.lenL (l := vs) mk (by lia) ?_
      o_new
      refine ⟨bl, ?_⟩
      o_new
      refine ⟨bl, ?_⟩
      o_new
      refine ⟨bl, ?_⟩
      o_new
      refine ⟨bl, ?_⟩
      o_new
      refine ⟨bl, ?_⟩
      refine Op.notInT ok (.here rfl) rfl ⟨by decide +kernel, by decide +kernel⟩ (.tup (by simp [AV.pds, AV.pd, PyData.canLayAll0, PyData.canLay0, opk]) (by simp [AV.pds, AV.pd, PyData.depthAll, PyData.depth])) ⟨_, rfl, fun b => ?_, fun b => ?_⟩
      · rw [menu_eqv, Bool.not_eq_false'] at b
        o_new
        refine Op.inL ok (.here rfl) mk (AV.nbs_pures nbv) ⟨lay.1, by lia⟩ .none ⟨_, rfl, fun b' => ?_, fun b' => ?_⟩
        · have nn : AV.none ∉ vs := fun q => by rw [(pd_any_none nbv).mpr q] at b'; cases b'
          have vv : ∀ a ∈ vs, (∃ i, a = .int i) ∨ ∃ l, a = .tup l := fun a ha => isV_cases (hv.1 a ha).2.1 fun q => nn (q ▸ ha)
          o_new
          refine ⟨nofun, fun _ => ?_⟩
          obtain ⟨rfl, x, y, rfl⟩ | hop : (op = Str.ofString "cons" ∧ ∃ x y, vs = [x, y]) ∨ (op ≠ Str.ofString "cons" ∧ ((op = Str.ofString "app" ∧ ∃ x y, vs = [x, y]) ∨ (op = Str.ofString "rev" ∧ ∃ x, vs = [x]))) := by
            rcases menu_cases b with h | h | h
            · exact .inl h
            · exact .inr ⟨by rw [h.1]; decide, .inl h⟩
            · exact .inr ⟨by rw [h.1]; decide, .inr h⟩
          · o_new
            refine Op.eq ok (.here rfl) (.here rfl) (.str (by decide +kernel)) (.str (by decide +kernel)) ⟨_, rfl, fun _ => ?_, fun q => by cases q⟩
            o_new
            refine Ev.callB (Ev.bltn (v := .builtin "isinstance") ok (by with_unfolding_all rfl) (by kernel_rfl) (by decide) ⟨_, rfl, ?_⟩)
            o_new
            refine Op.itemL (a := y) mk (by decide) rfl bl ?_ fun _ _ => ⟨_, rfl⟩
            o_new
            refine Ev.bltn (v := .type "tuple") ok (by with_unfolding_all rfl) (by kernel_rfl) (by decide) ?_
            o_new
            obtain ⟨i, rfl⟩ | ⟨l, rfl⟩ := vv y (by simp)
            · refine Op.isTup rfl (by simp) (by simp) ?_
              o_new
              refine ⟨nofun, fun _ => ?_⟩
              o_new
              exact ⟨rfl, by intro p hp; simp [hp]⟩
            · refine Op.isTup (AV.nb_pure (hv.1 _ (by simp)).1) (by simp) (by simp) ?_
              o_new
              refine ⟨fun _ => ?_, nofun⟩
              refine Ev.callTy (Ev.bltn (v := .type "tuple") ok (by with_unfolding_all rfl) (by kernel_rfl) (by decide) ⟨_, rfl, ?_⟩)
              o_new
              have lz : l.length + 2 ≤ 1000000 := by
                have := AV.length_le l; have := x.wt_pos; simp only [AV.wts, AV.wt] at hvz; lia
              refine Op.itemL (a := x) mk (by decide) rfl bl ?_ fun _ _ => ⟨_, rfl⟩
              o_new
              refine ⟨bl, fun D₃ => ?_⟩
              refine Ev.callTy (Ev.bltn (v := .type "list") ok (by with_unfolding_all rfl) (by kernel_rfl) (by decide) ⟨_, rfl, ?_⟩)
              o_new
              refine Op.itemL (a := .tup l) (List.mem_cons_of_mem _ mk) (by decide) rfl bl ?_ fun _ _ => ⟨_, rfl⟩
              o_new
              refine Op.listT (by lia) fun D₄ => ?_
              refine Op.addL (a := [x]) (b := l) (List.mem_cons_of_mem _ List.mem_cons_self) List.mem_cons_self (by simp; lia) fun D₅ => ?_
              o_new
              refine Op.tupleL (a := [x] ++ l) List.mem_cons_self (by simp; lia) ⟨?_, by intro p hp; simp [hp]⟩
              have : x.isNone = false := by
                cases x with
                | none => exact absurd (by simp) nn
                | _ => rfl
              rw [nodeV, if_pos rfl, consV, this]; rfl
          · obtain ⟨hc, hop⟩ := hop
            o_new
            refine Op.eq ok (.here rfl) (.here rfl) (.str opk) (.str (by decide +kernel)) ⟨_, rfl, (fun q => by rw [eqv_str, beq_iff_eq] at q; exact absurd q hc), fun _ => ?_⟩
            o_new
            refine Ev.comp (ρ' := []) (n := n) ok rfl (by decide) rfl (by decide) (by decide) (fun C => lk0) ?_
            o_new
            refine ⟨_, _, _, .list, .some mk, by lia, fun C => ?_⟩
            refine .filter (fun a => !a.isTup) id (.some mk) (fun d hd => ?_) ?_
            · refine ⟨_, .name rfl rfl, ?_, fun _ => ?_⟩
              · o_new
                refine Ev.callB (Ev.bltn (v := .builtin "isinstance") ok (by with_unfolding_all rfl) (by kernel_rfl) (by decide) ⟨_, rfl, ?_⟩)
                o_new
                refine Ev.bltn (v := .type "tuple") ok (by with_unfolding_all rfl) (by kernel_rfl) (by decide) ?_
                o_new
                have := vv d hd
                refine Op.isTup (AV.nb_pure (hv.1 _ hd).1) (by rcases this with ⟨_, rfl⟩ | ⟨_, rfl⟩ <;> simp) (by rcases this with ⟨_, rfl⟩ | ⟨_, rfl⟩ <;> simp) ?_
                o_new
                exact ⟨rfl, rfl⟩
              · o_new
                exact ⟨rfl, rfl⟩
            · intro D₃
              rw [List.nil_append, List.map_id]
              o_new
              refine ⟨bl, fun D₄ => ?_⟩
              have nbf : AV.nbs (vs.filter fun a => !a.isTup) = true := AV.nbs_iff.mpr fun a ha => (hv.1 a (List.mem_filter.mp ha).1).1
              have dpf : AV.deps (vs.filter fun a => !a.isTup) ≤ 45 := AV.deps_le.mpr fun a ha => by have := (hv.1 a (List.mem_filter.mp ha).1).2.2; lia
              have layf := AV.nbs_lay nbf
              refine Op.ne ok (.list (l := vs.filter fun a => !a.isTup) (List.mem_cons_of_mem _ List.mem_cons_self) (AV.nbs_pures nbf)) (.list (l := []) List.mem_cons_self rfl) (.list layf.1 (by lia)) (.list rfl (by decide)) ⟨_, rfl, fun b => ?_, fun b => ?_⟩
              · rw [eqv_list0, Bool.not_eq_true'] at b
                o_new
                exact ⟨(nodeV_int hc vne (filter_int b)).symm, by intro p hp; simp [hp]⟩
              · rw [eqv_list0, Bool.not_eq_false', List.isEmpty_iff, List.filter_eq_nil_iff] at b
                have all : ∀ a ∈ vs, ∃ l, a = .tup l := fun a ha => isTup_cases (by simpa using b a ha)
                o_new
                refine Ex.assign ok (.inr rfl) ?_
                o_new
                refine ⟨bl, fun D₅ => ?_⟩
                o_new
                refine Ex.for ?_
                o_new
                refine ⟨_, _, _, .list (l := vs), .some (by simp), ?_⟩
                rcases hop with ⟨rfl, x, y, rfl⟩ | ⟨rfl, x, rfl⟩
                · obtain ⟨l, rfl⟩ := all x (by simp)
                  obtain ⟨k, rfl⟩ := all y (by simp)
                  refine ⟨_, .name ok (.inl rfl), ?_⟩
                  o_new
                  have lz : l.length + k.length + 2 ≤ 1000000 := by
                    have := AV.length_le l; have := AV.length_le k; simp only [AV.wts, AV.wt] at hvz; lia
                  refine Ev.methB ?_
                  o_new
                  refine ⟨_, _, .list (l := []) List.mem_cons_self F.slot_list_extend F.type_list_extend, ?_⟩
                  o_new
                  refine Op.extendT .head (by simp; lia) ?_
                  o_new
                  refine ⟨.some (by simp), _, .name ok (.inl rfl), ?_⟩
                  o_new
                  refine Ev.methB ?_
                  o_new
                  refine ⟨_, _, .list (l := [] ++ l) List.mem_cons_self F.slot_list_extend F.type_list_extend, ?_⟩
                  o_new
                  refine Op.extendT .head (by simp; lia) ?_
                  o_new
                  refine ⟨.some (by simp), ?_⟩
                  show Exs _ _ _ _ _ _ _ _ _
                  o_new
                  refine Op.eq ok (.here rfl) (.here rfl) (.str (by decide +kernel)) (.str (by decide +kernel)) ⟨_, rfl, (fun q => by cases q), fun _ => ?_⟩
                  refine Ev.callTy (Ev.bltn (v := .type "tuple") ok (by with_unfolding_all rfl) (by kernel_rfl) (by decide) ⟨_, rfl, ?_⟩)
                  o_new
                  refine Op.tupleL (a := [] ++ l ++ k) List.mem_cons_self (by simp; lia) ⟨rfl, by intro p hp; simp [hp]⟩
                · obtain ⟨l, rfl⟩ := all x (by simp)
                  have lz : l.length + 1 ≤ 1000000 := by
                    have := AV.length_le l; simp only [AV.wts, AV.wt] at hvz; lia
                  refine ⟨_, .name ok (.inl rfl), ?_⟩
                  o_new
                  refine Ev.methB ?_
                  o_new
                  refine ⟨_, _, .list (l := []) List.mem_cons_self F.slot_list_extend F.type_list_extend, ?_⟩
                  o_new
                  refine Op.extendT .head (by simp; lia) ?_
                  o_new
                  refine ⟨.some (by simp), ?_⟩
                  show Exs _ _ _ _ _ _ _ _ _
                  o_new
                  refine Op.eq ok (.here rfl) (.here rfl) (.str (by decide +kernel)) (.str (by decide +kernel)) ⟨_, rfl, (fun _ => ?_), fun q => by cases q⟩
                  refine Ev.callTy (Ev.bltn (v := .type "tuple") ok (by with_unfolding_all rfl) (by kernel_rfl) (by decide) ⟨_, rfl, ?_⟩)
                  o_new
                  refine Ev.comp (ρ' := [("found", .val (.ref D₅))]) (n := n) ok rfl (by decide) rfl (by decide) (by decide) ?hρ ?_
                  case hρ => exact fun C => lk1 ⟨rfl, rfl, rfl, rfl⟩ lk0
                  refine Ev.callTy (Ev.bltn (v := .type "range") ok (by with_unfolding_all rfl) (by kernel_rfl) (by decide) ⟨_, rfl, ?_⟩)
                  o_new
                  refine Ev.callB (Ev.bltn (v := .builtin "len") ok (by with_unfolding_all rfl) (by kernel_rfl) (by decide) ⟨_, rfl, ?_⟩)
                  o_new
                  refine Op.lenL (l := [] ++ l) List.mem_cons_self (by simp; lia) ?_
                  o_new
                  refine Op.range1 fun r t u v => ?_
                  refine ⟨_, _, _, .range0 (by simp; lia), .some List.mem_cons_self, by simp; lia, fun C => ?_⟩
                  have mf : ∀ {η₁ : Store}, (D₅, AObj.list ([] ++ l)) ∈ (r, AObj.raw (rangeO 0 (↑([] ++ l).length) t u v)) :: (D₅, AObj.list ([] ++ l)) :: η₁ := List.mem_cons_of_mem _ List.mem_cons_self
                  refine .map (backOf l) (.some List.mem_cons_self) (fun d hd => ?_) ?_
                  · refine ea1_2 (List.mem_map.mp hd) fun i hi yq3 => ?_; subst yq3
                    rw [List.mem_range, List.nil_append] at hi
                    refine ⟨_, .name rfl rfl, ?_⟩
                    o_new
                    refine Ev.callB (Ev.bltn (v := .builtin "len") ok (by with_unfolding_all rfl) (by kernel_rfl) (by decide) ⟨_, rfl, ?_⟩)
                    o_new
                    refine Op.lenL (l := [] ++ l) mf (by simp; lia) ?_
                    o_new
                    refine Op.sub ?_
                    o_new
                    refine Op.sub ?_
                    refine Op.itemL (a := backOf l (.int i)) mf (by simp; lia) ?_ (by simp; lia) ⟨rfl, rfl⟩ fun _ _ => ⟨_, rfl⟩
                    have e : (((([] ++ l).length : Nat) : Int) - 1 - (i : Int)).toNat = l.length - 1 - i := by rw [List.nil_append]; lia
                    rw [e, backOf, List.nil_append, Int.toNat_natCast, List.getD_eq_getElem?_getD]
                    have : l.length - 1 - i < l.length := by lia
                    simp [this]
                  · intro D₆
                    o_new
                    rw [List.nil_append, List.nil_append, rev_pick]
                    refine Op.tupleL (a := l.reverse) List.mem_cons_self (by simp; lia) ⟨rfl, by intro p hp; simp [hp]⟩
        · refine ⟨fun _ => ?_, nofun⟩
          o_new
          exact ⟨(nodeV_noneIn ((pd_any_none nbv).mp b')).symm, by intro p hp; simp [hp]⟩
      · rw [menu_eqv, Bool.not_eq_true'] at b
        refine ⟨fun _ => ?_, nofun⟩
        o_new
        exact ⟨(nodeV_off vne b).symm, by intro p hp; simp [hp]⟩
end
mutual
/-- the names in a term, and if each stands for an element -/
noncomputable def nmL : Tm → Bool → List (Str × Bool)
  | .node op ks, b => if ks.isEmpty then (if op.cps[0]? = some 63 then [(op, b)] else []) else nmLs (op == Str.ofString "cons") ks true
noncomputable def nmLs (isC : Bool) : List Tm → Bool → List (Str × Bool)
  | [], _ => []
  | k :: ks, b => nmL k (isC && b) ++ nmLs isC ks false
end
noncomputable def nmAV (l : List (Str × Bool)) : List AV := l.map fun p => .tup [.str p.1, .bool p.2]
theorem nmAV_append (a b : List (Str × Bool)) : nmAV (a ++ b) = nmAV a ++ nmAV b := List.map_append
mutual
/-- ops are some text -/
noncomputable def Tm.txt : Tm → Bool
  | .node op ks => decide (0 < op.cps.size) && decide (op.length ≤ 1000) && Tm.txts ks
noncomputable def Tm.txts : List Tm → Bool
  | [] => true
  | k :: ks => k.txt && Tm.txts ks
end
theorem Tm.txts_iff {l : List Tm} : Tm.txts l = true ↔ ∀ t ∈ l, t.txt = true := by
  induction l with
  | nil => simp [Tm.txts]
  | cons a l ih => rw [Tm.txts, Bool.and_eq_true, ih]; simp
mutual
theorem nmL_len : ∀ (t : Tm) (b : Bool), (nmL t b).length ≤ t.size
  | .node op ks, b => by
    rw [nmL, Tm.size]
    split
    · split <;> simp
    · have := nmLs_len (op == Str.ofString "cons") ks true; lia
theorem nmLs_len (i : Bool) : ∀ (l : List Tm) (b : Bool), (nmLs i l b).length ≤ Tm.sizes l
  | [], _ => by simp [nmLs]
  | k :: ks, b => by
    have h1 := nmL_len k (i && b)
    have h2 := nmLs_len i ks false
    rw [nmLs, Tm.sizes, List.length_append]; lia
end
theorem nmLs_snoc (i : Bool) (k : Tm) : ∀ (l : List Tm) (b : Bool), nmLs i (l ++ [k]) b = nmLs i l b ++ nmL k (i && (b && l.isEmpty))
  | [], b => by simp [nmLs]
  | x :: l, b => by
    rw [List.cons_append, nmLs, nmLs_snoc i k l false, nmLs, List.append_assoc]
    simp
theorem take_snoc {α : Type} {l : List α} {i : Nat} {x : α} (h : l[i]? = Option.some x) : l.take (i + 1) = l.take i ++ [x] := by
  rw [List.take_add_one, h]; rfl
theorem take_empty {α : Type} {l : List α} (h : l ≠ []) (i : Nat) : (l.take i).isEmpty = (i == 0) := by
  cases i with
  | zero => rfl
  | succ i => cases l with
    | nil => exact absurd rfl h
    | cons a r => rfl
theorem strOk_at {x : Str} (h : PyData.strOk x = true) {i : Nat} (hi : i < x.cps.size) : PyData.strOk ⟨#[x.cps[i]]⟩ = true := by
  unfold PyData.strOk at h ⊢
  rw [Array.all_eq_true] at h
  have := h i hi
  simpa using this
theorem eqv_int (a b : Int) : PyData.eqv (AV.int a).pd (AV.int b).pd = (a == b) := by simp [AV.pd, PyData.eqv]
theorem one_str (a b : Nat) : ((⟨#[a]⟩ : Str) == ⟨#[b]⟩) = decide (a = b) := by
  by_cases h : a = b
  · subst h; simp
  · rw [decide_eq_false h, beq_eq_false_iff_ne]; simp [h]
section
variable {prog : Program} {w : World} {p : Program} {loose : List Str} {mean : ExcName → Option Value} {mg mb : Str → Option Value}
theorem names_ok : ∀ (n : Nat) (t : Tm) (b : Bool) (η : Store), t.h ≤ n → n ≤ 40 → t.size ≤ 500 → t.ok = true → t.txt = true →
    FnC (cx prog w p loose mean mg mb) 183 n [t.av, .bool b] η (fun v η' => ∃ D, v = .val (.ref D) ∧ η' = (D, .list (nmAV (nmL t b))) :: η ∧ D ∉ η.map (·.1)) Exc.no := by
  intro n
  induction n with
  | zero => intro t b η h; cases t; simp [Tm.h] at h
  | succ n ih =>
    intro t b η h hn hz hok hso
    obtain ⟨op, ks⟩ := t
    refine .one (FnC.nd fun nd₀ => FnC.enter (body := [_, _, _, _]) (by with_unfolding_all rfl) (by with_unfolding_all rfl) ["term", "is_element"] rfl (fun s _ h => by apply len2.on h; intro _ _; exact .of_eq rfl) (by decide) (by decide) rfl rfl rfl fun g ok => ?_)
    rw [Tm.av]
    have hsz : Tm.sizes ks + 1 ≤ 500 := by rw [Tm.size] at hz; exact hz
    have ol : (AV.str op :: Tm.avs ks).length ≤ 1000000 := by
      rw [List.length_cons, Tm.avs_length]; have := Tm.length_le ks; lia
    have hh : Tm.hs ks ≤ n := by rw [Tm.h] at h; lia
    have okk : ∀ k ∈ ks, k.ok = true := by
      rw [Tm.ok, Bool.and_eq_true] at hok; exact Tm.oks_iff.mp hok.2
    have opk : PyData.strOk op = true := by rw [Tm.ok, Bool.and_eq_true] at hok; exact hok.1
    rw [Tm.txt, Bool.and_eq_true, Bool.and_eq_true] at hso
    refine ea0_2 hso fun zq2 hsk => ?_; try clear hso; refine ea0_2 zq2 fun hp hp2 => ?_; clear zq2
    have hp := of_decide_eq_true hp
    have hp2 := of_decide_eq_true hp2
    have hsk := Tm.txts_iff.mp hsk
    o_new
    refine Ev.callB (Ev.bltn (v := .builtin "len") ok (by with_unfolding_all rfl) (by kernel_rfl) (by decide) ⟨_, rfl, ?_⟩)
    o_new
    refine Op.lenT ol ?_
    o_new
    refine Op.eq ok (.here rfl) (.here rfl) .int .int ⟨_, rfl, fun q => ?_, fun q => ?_⟩
    · have hk : ks = [] := by
        have : ((AV.str op :: Tm.avs ks).length : Int) = 1 := by simpa [AV.pd, PyData.eqv] using q
        rw [List.length_cons, Tm.avs_length] at this
        exact List.eq_nil_of_length_eq_zero (by lia)
      subst hk
      o_new
      refine Op.itemT (a := .str op) (by decide) rfl ol ?_ fun _ _ => ⟨_, rfl⟩
      o_new
      refine Op.itemS (ch := op.cps[0]) (by decide) (by simp [hp]) (by lia) ?_ fun _ _ => ⟨_, rfl⟩
      o_new
      have e1 : PyData.eqv (AV.str ⟨#[op.cps[0]]⟩).pd (AV.str (Str.ofString "?")).pd = decide (op.cps[0] = 63) := by
        rw [eqv_str]; exact one_str _ 63
      refine Op.eq ok (.here rfl) (.here rfl) (.str ?_) (.str (by decide +kernel)) ⟨_, rfl, fun q => ?_, fun q => ?_⟩
      · exact strOk_at opk hp
      · rw [e1, decide_eq_true_eq] at q
        o_new
        refine Op.itemT (a := .str op) (by decide) rfl ol ?_ fun _ _ => ⟨_, rfl⟩
        o_new
        refine ⟨bl, ?_⟩
        o_new
        refine ⟨bl, fun D nd => ⟨D, rfl, ?_, (Keeps.refl η).cons, ?_⟩⟩
        · rw [nmL, show ([] : List Tm).isEmpty = true from rfl, if_pos rfl, if_pos (by simp [hp, q])]; exact List.mem_cons_self
        · exact (List.nodup_cons.mp nd).1
      · rw [e1, decide_eq_false_iff_not] at q
        o_new
        refine ⟨bl, fun D nd => ⟨D, rfl, ?_, (Keeps.refl η).cons, ?_⟩⟩
        · rw [nmL, show ([] : List Tm).isEmpty = true from rfl, if_pos rfl, if_neg (by simp [hp, q])]; exact List.mem_cons_self
        · exact (List.nodup_cons.mp nd).1
    · have hk : ks ≠ [] := fun e => by
        subst e
        simp [AV.pd, PyData.eqv, Tm.avs] at q
      o_new
      refine Ex.assign ok (.inl rfl) ?_
      o_new
      refine ⟨bl, fun D => Exs.nd fun ndD => ?_⟩
      have nD : D ∉ η.map (·.1) := (List.nodup_cons.mp ndD).1
      o_new
      refine Ex.forI [("found", .val (.ref D)), ("term", .tup (.str op :: Tm.avs ks)), ("is_element", .bool b)] (lk1 rfl (lk1 rfl (lk1 rfl lk0))) ?_
      refine Ev.callTy (Ev.bltn (v := .type "enumerate") ok (by with_unfolding_all rfl) (by kernel_rfl) (by decide) ⟨_, rfl, ?_⟩)
      o_new
      refine Ev.sliceFrom fun D' tk => ?_
      refine Op.sliceTFrom (l := .str op :: Tm.avs ks) (a := 1) (by decide) (by simp) ol ?_ fun _ _ => ⟨_, rfl⟩
      o_new
      refine Op.enumT fun e it => ?_
      refine ⟨_, _, _, .enum, fun i η' => (D, .list (nmAV (nmLs (op == Str.ofString "cons") (ks.take i) true))) ∈ η' ∧ Keeps η η', ⟨List.mem_cons_self, (Keeps.refl η).cons⟩, fun _ _ _ => .none, fun i d hd η₁ hI => ?_, fun η₁ hI => ?_⟩
      · rw [List.drop_one, List.tail_cons, enu_get, Tm.avs_map, List.getElem?_map] at hd
        cases hk' : ks[i]? with
        | none => rw [hk'] at hd; cases hd
        | some k =>
          rw [hk'] at hd
          simp only [Option.map_some, Nat.zero_add, Option.some.injEq] at hd
          subst hd
          have hmem : k ∈ ks := List.mem_of_getElem? hk'
          have hsize := Tm.size_mem hmem
          have take_len : (nmLs (op == Str.ofString "cons") (ks.take i) true).length ≤ 500 := by
            have h1 := nmLs_len (op == Str.ofString "cons") (ks.take i) true
            have h2 : ∀ (l : List Tm) i, Tm.sizes (l.take i) ≤ Tm.sizes l := by
              intro l
              induction l with
              | nil => intro i; simp [Tm.sizes]
              | cons a r ihr => intro i; cases i with
                | zero => simp [Tm.sizes]
                | succ i => rw [List.take_succ_cons, Tm.sizes, Tm.sizes]; have := ihr i; lia
            have := h2 ks i; lia
          refine ⟨_, .two ok (.inl rfl) (.inl rfl), ?_⟩
          o_new
          refine Ev.methB ?_
          o_new
          refine ⟨_, _, .list hI.1 F.slot_list_extend F.type_list_extend, ?_⟩
          o_new
          refine Ev.callK ok (Ev.glob (v := .ref 183) ok (by with_unfolding_all rfl) ⟨183, rfl, by with_unfolding_all rfl, ?_⟩)
          o_new
          refine Ev.mono (Φ := fun a η' => a = .bool ((op == Str.ofString "cons") && (true && (ks.take i).isEmpty)) ∧ η' = η₁) ?_ fun a η' ⟨e1, e2⟩ => ?_
          · refine Ev.and ?_
            o_new
            refine Op.itemT (a := .str op) (by decide) rfl ol ?_ fun _ _ => ⟨_, rfl⟩
            o_new
            refine Op.eq ok (.here rfl) (.here rfl) (.str opk) (.str (by decide +kernel)) ⟨_, rfl, fun b1 => ?_, fun b1 => ?_⟩
            · o_new
              refine Op.eq ok (.here rfl) (.here rfl) .int .int ⟨?_, rfl⟩
              rw [eqv_str] at b1
              rw [eqv_int, b1, take_empty hk, Bool.true_and, Bool.true_and]
              cases i <;> rfl
            · rw [eqv_str] at b1
              rw [b1]; exact ⟨rfl, rfl⟩
          · subst e1 e2
            o_new
            refine Op.fn ok ((ih k _ _ (Nat.le_trans (Tm.h_mem hmem) hh) (by lia) (by lia) (okk k hmem) (hsk k hmem)).mono fun v η' zz => ?_) (Nat.le_refl _)
            refine ea1_3 zz fun D' e1 e2 nD' => ?_; try clear zz
            subst e1 e2
            o_new
            refine Op.nd fun nd₁ => ?_
            have nd₂ := (nd_tail nd₁).2
            refine ea1_1 (Up.of (.list (nmAV (nmLs (op == Str.ofString "cons") (ks.take i) true) ++ nmAV (nmL k ((op == Str.ofString "cons") && (true && (ks.take i).isEmpty))))) hI.1) fun η₂ U => ?_
            have lk := nmL_len k ((op == Str.ofString "cons") && (true && (ks.take i).isEmpty))
            refine Op.extendL (.tail U) List.mem_cons_self (by rw [nmAV, nmAV, List.length_map, List.length_map]; lia) ?_
            o_new
            refine ⟨lk1 rfl (lk1 rfl (lk1 rfl lk0)), ?_, ?_⟩
            · rw [take_snoc hk', nmLs_snoc, nmAV_append]
              exact List.mem_cons_of_mem _ U.mem.2
            · exact (hI.2.up U nd₂ nD).cons
      · rw [enu_length, List.drop_one, List.tail_cons, Tm.avs_length, List.take_length] at hI
        o_new
        refine fun nd => ⟨D, rfl, ?_, hI.2, nD⟩
        rw [nmL, if_neg (by simpa using hk)]
        exact hI.1
end
noncomputable def Tm.isVar : Tm → Bool
  | .node op ks => ks.isEmpty && (op.cps[0]? == some 63)
theorem idx_one (n : Nat) (h : 0 < n) : Builtin.Str.strSliceIndices none (some 1) 1 n = [0] := by
  have e : max (0 : Int) (min 1 n) = 1 := by lia
  simp only [Builtin.Str.strSliceIndices]
  simp [sliceRange, e]
theorem slice_first {x : Str} (h : 0 < x.cps.size) : Txt.slice x none (some 1) = ⟨#[x.cps[0]]⟩ := by
  have hn : 0 < x.length := h
  unfold Txt.slice
  rw [idx_one _ hn]
  split
  · rename_i q
    have e1 : x.cps.size = 1 := by
      have : (1 : Nat) = x.length := by simpa using q
      exact this.symm
    obtain ⟨⟨l⟩⟩ := x
    match l, e1 with
    | [a], _ => rfl
  · simp [h]
theorem slice_one {x : Str} (h : 0 < x.cps.size) : (Txt.slice x none (some 1) == Str.ofString "?") = (x.cps[0]? == some 63) := by
  rw [slice_first h]
  have := one_str x.cps[0] 63
  rw [show Str.ofString "?" = ⟨#[63]⟩ from by decide +kernel, this]
  by_cases q : x.cps[0] = 63
  · simp [h, q]
  · simp [h, q]
section
variable {prog : Program} {w : World} {p : Program} {loose : List Str} {mean : ExcName → Option Value} {mg mb : Str → Option Value}
theorem isvar_ok (t : Tm) (η : Store) (n : Nat) (hz : t.size ≤ 500) (hok : t.ok = true) (hso : t.txt = true) : FnC (cx prog w p loose mean mg mb) 81 (n + 1) [t.av] η (fun v η' => v = .bool t.isVar ∧ η' = η) Exc.no := by
  obtain ⟨op, ks⟩ := t
  refine .same (FnC.enter (body := [_]) (by with_unfolding_all rfl) (by with_unfolding_all rfl) ["t"] rfl (fun s _ h => by apply len1.on h; intro _; exact .of_eq rfl) (by decide) (by decide) rfl rfl rfl fun g ok => ?_)
  rw [Tm.av]
  have hsz : Tm.sizes ks + 1 ≤ 500 := by rw [Tm.size] at hz; exact hz
  have ol : (AV.str op :: Tm.avs ks).length ≤ 1000000 := by
    rw [List.length_cons, Tm.avs_length]; have := Tm.length_le ks; lia
  have opk : PyData.strOk op = true := by rw [Tm.ok, Bool.and_eq_true] at hok; exact hok.1
  rw [Tm.txt, Bool.and_eq_true, Bool.and_eq_true] at hso
  have hp2 := of_decide_eq_true hso.1.2
  have hp := of_decide_eq_true hso.1.1
  o_new
  refine Ev.and ?_
  o_new
  refine Ev.callB (Ev.bltn (v := .builtin "len") ok (by with_unfolding_all rfl) (by kernel_rfl) (by decide) ⟨_, rfl, ?_⟩)
  o_new
  refine Op.lenT ol ?_
  o_new
  refine Op.eq ok (.here rfl) (.here rfl) .int .int ⟨_, rfl, fun q => ?_, fun q => ?_⟩
  · rw [eqv_int, List.length_cons, Tm.avs_length, beq_iff_eq] at q
    have hk : ks = [] := List.eq_nil_of_length_eq_zero (by lia)
    subst hk
    o_new
    refine Op.itemT (a := .str op) (by decide) rfl ol ?_ fun _ _ => ⟨_, rfl⟩
    refine Ev.sliceUpto fun D t => ?_
    refine Op.sliceSUpto (by lia) ?_ fun _ _ => ⟨_, rfl⟩
    o_new
    refine Op.eq ok (.here rfl) (.here rfl) (.str ?_) (.str (by decide +kernel)) ⟨?_, by intro p hp; simp [hp]⟩
    · rw [slice_first hp]; exact strOk_at opk hp
    · rw [eqv_str, slice_one hp, Tm.isVar]; rfl
  · rw [eqv_int, List.length_cons, Tm.avs_length, beq_eq_false_iff_ne] at q
    refine ⟨?_, by intro p hp; simp [hp]⟩
    rw [Tm.isVar, show ks.isEmpty = false from ?_]; rfl
    cases ks with
    | nil => simp at q
    | cons a r => rfl
end
mutual
/-- the parts of a term with their paths -/
noncomputable def partsL : Tm → List (List Int × Tm)
  | .node op ks => ([], .node op ks) :: partsLs ks 0
noncomputable def partsLs : List Tm → Nat → List (List Int × Tm)
  | [], _ => []
  | k :: ks, i => (partsL k).map (fun q => ((i : Int) :: q.1, q.2)) ++ partsLs ks (i + 1)
end
noncomputable def ptAV (l : List (List Int × Tm)) : List AV := l.map fun q => .tup [.tup (q.1.map .int), q.2.av]
theorem ptAV_append (a b : List (List Int × Tm)) : ptAV (a ++ b) = ptAV a ++ ptAV b := List.map_append
mutual
theorem partsL_len : ∀ t : Tm, (partsL t).length = t.size
  | .node op ks => by rw [partsL, Tm.size, List.length_cons, partsLs_len ks 0]
theorem partsLs_len : ∀ (l : List Tm) (i : Nat), (partsLs l i).length = Tm.sizes l
  | [], _ => by simp [partsLs, Tm.sizes]
  | k :: ks, i => by rw [partsLs, Tm.sizes, List.length_append, List.length_map, partsL_len k, partsLs_len ks]
end
mutual
theorem partsL_path : ∀ (t : Tm), ∀ q ∈ partsL t, q.1.length ≤ t.size
  | .node op ks, q, h => by
    rw [partsL] at h
    rw [Tm.size]
    rcases List.mem_cons.mp h with rfl | h
    · simp
    · have := partsLs_path ks 0 q h; lia
theorem partsLs_path : ∀ (l : List Tm) (i : Nat), ∀ q ∈ partsLs l i, q.1.length ≤ Tm.sizes l + 1
  | [], _, q, h => by simp [partsLs] at h
  | k :: ks, i, q, h => by
    rw [partsLs] at h
    rw [Tm.sizes]
    rcases List.mem_append.mp h with h | h
    · refine ea1_2 (List.mem_map.mp h) fun r hr yq2 => ?_; subst yq2
      have := partsL_path k r hr
      rw [List.length_cons]; lia
    · have := partsLs_path ks (i + 1) q h; lia
end
theorem partsLs_snoc (k : Tm) : ∀ (l : List Tm) (i : Nat), partsLs (l ++ [k]) i = partsLs l i ++ (partsL k).map (fun q => (((i + l.length : Nat) : Int) :: q.1, q.2))
  | [], i => by simp [partsLs]
  | x :: l, i => by
    rw [List.cons_append, partsLs, partsLs_snoc k l (i + 1), partsLs, List.append_assoc, List.length_cons, show i + 1 + l.length = i + (l.length + 1) by lia]
theorem sizes_take (l : List Tm) : ∀ i, Tm.sizes (l.take i) ≤ Tm.sizes l := by
  induction l with
  | nil => intro i; simp [Tm.sizes]
  | cons a r ihr => intro i; cases i with
    | zero => simp [Tm.sizes]
    | succ i => rw [List.take_succ_cons, Tm.sizes, Tm.sizes]; have := ihr i; lia
/-- a part with its path goes down -/
noncomputable def downAV (i : Int) : AV → AV
  | .tup [.tup p, t] => .tup [.tup (.int i :: p), t]
  | a => a
section
variable {prog : Program} {w : World} {p : Program} {loose : List Str} {mean : ExcName → Option Value} {mg mb : Str → Option Value}
theorem parts_ok : ∀ (n : Nat) (t : Tm) (η : Store), t.h ≤ n → n ≤ 40 → t.size ≤ 500 →
    FnC (cx prog w p loose mean mg mb) 91 n [t.av] η (fun v η' => ∃ D, v = .val (.ref D) ∧ η' = (D, .list (ptAV (partsL t))) :: η ∧ D ∉ η.map (·.1)) Exc.no := by
  intro n
  induction n with
  | zero => intro t η h; cases t; simp [Tm.h] at h
  | succ n ih =>
    intro t η h hn hz
    obtain ⟨op, ks⟩ := t
    refine .one (FnC.enter (body := [_, _, _]) (by with_unfolding_all rfl) (by with_unfolding_all rfl) ["t"] rfl (fun s _ h => by apply len1.on h; intro _; exact .of_eq rfl) (by decide) (by decide) rfl rfl rfl fun g ok => ?_)
    rw [Tm.av]
    have hsz : Tm.sizes ks + 1 ≤ 500 := by rw [Tm.size] at hz; exact hz
    have ol : (AV.str op :: Tm.avs ks).length ≤ 1000000 := by
      rw [List.length_cons, Tm.avs_length]; have := Tm.length_le ks; lia
    have hh : Tm.hs ks ≤ n := by rw [Tm.h] at h; lia
    refine .cons (.assign ok (.inl rfl) ?_)
    o_new
    refine ⟨bl, ?_⟩
    o_new
    refine ⟨bl, ?_⟩
    o_new
    refine ⟨bl, fun D => Exs.nd fun ndD => ?_⟩
    have nD : D ∉ η.map (·.1) := (List.nodup_cons.mp ndD).1
    o_new
    refine Ex.forI [("found", .val (.ref D)), ("t", .tup (.str op :: Tm.avs ks))] (lk1 rfl (lk1 rfl lk0)) ?_
    refine Ev.callTy (Ev.bltn (v := .type "enumerate") ok (by with_unfolding_all rfl) (by kernel_rfl) (by decide) ⟨_, rfl, ?_⟩)
    o_new
    refine Ev.sliceFrom fun D' tk => ?_
    refine Op.sliceTFrom (l := .str op :: Tm.avs ks) (a := 1) (by decide) (by simp) ol ?_ fun _ _ => ⟨_, rfl⟩
    o_new
    refine Op.enumT fun e it => ?_
    refine ⟨_, _, _, .enum, fun i η' => (D, .list (ptAV (([], .node op ks) :: partsLs (ks.take i) 0))) ∈ η' ∧ Keeps η η', ⟨List.mem_cons_self, (Keeps.refl η).cons⟩, fun _ _ _ => .none, fun i d hd η₁ hI => ?_, fun η₁ hI => ?_⟩
    · rw [List.drop_one, List.tail_cons, enu_get, Tm.avs_map, List.getElem?_map] at hd
      cases hk' : ks[i]? with
      | none => rw [hk'] at hd; cases hd
      | some k =>
        rw [hk'] at hd
        simp only [Option.map_some, Nat.zero_add, Option.some.injEq] at hd
        subst hd
        have hmem : k ∈ ks := List.mem_of_getElem? hk'
        have hsize := Tm.size_mem hmem
        have hi : i < ks.length := (List.getElem?_eq_some_iff.mp hk').1
        refine ⟨_, .two ok (.inr rfl) (.inl rfl), ?_⟩
        o_new
        refine Ev.methB ?_
        o_new
        refine ⟨_, _, .list hI.1 F.slot_list_extend F.type_list_extend, ?_⟩
        o_new
        refine Ev.comp (ρ' := [("k", .int i)]) (n := n) ok rfl (by decide) rfl (by decide) (by decide) ?hρ ?_
        case hρ => exact fun C => lk1 ⟨rfl, rfl, rfl, rfl⟩ lk0
        refine Ev.callK ok (Ev.glob (v := .ref 91) ok (by with_unfolding_all rfl) ⟨91, rfl, by with_unfolding_all rfl, ?_⟩)
        o_new
        refine Op.fn ok ((ih k _ (Nat.le_trans (Tm.h_mem hmem) hh) (by lia) (by lia)).mono fun v η' zz => ?_) (Nat.le_refl _)
        refine ea1_3 zz fun D' e1 e2 nD' => ?_; try clear zz
        subst e1 e2
        refine ⟨_, _, _, .list (l := ptAV (partsL k)) (a := D'), .some List.mem_cons_self, by rw [ptAV, List.length_map, partsL_len]; lia, fun C => ?_⟩
        refine .map (downAV i) (.some List.mem_cons_self) (fun d hd => ?_) ?_
        · refine ea1_2 (List.mem_map.mp hd) fun q hq yq4 => ?_; subst yq4
          have hpl := partsL_path k q hq
          refine ⟨_, .two rfl rfl (by decide) rfl, ?_⟩
          o_new
          refine ⟨bl, ?_⟩
          o_new
          refine Op.addT (by simp; lia) ?_
          o_new
          exact ⟨bl, rfl, rfl⟩
        · intro D''
          o_new
          refine Op.nd fun nd₁ => ?_
          have nd₂ := (nd_tail (nd_tail nd₁).2).2
          refine ea1_1 (Up.of (.list (ptAV (([], .node op ks) :: partsLs (ks.take i) 0) ++ (ptAV (partsL k)).map (downAV i))) hI.1) fun η₂ U => ?_
          have tl := sizes_take ks i
          refine Op.extendL (.tail (.tail U)) List.mem_cons_self (by simp only [ptAV, List.length_map, List.length_append, List.nil_append, List.length_cons, partsL_len, partsLs_len]; lia) ?_
          o_new
          refine ⟨lk1 rfl (lk1 rfl lk0), ?_, ?_⟩
          · rw [take_snoc hk', partsLs_snoc, List.length_take, Nat.min_eq_left (Nat.le_of_lt hi), Nat.zero_add, ← List.cons_append, ptAV_append]
            have e : ptAV ((partsL k).map fun q => ((i : Int) :: q.1, q.2)) = (ptAV (partsL k)).map (downAV i) := by
              unfold ptAV
              rw [List.map_map, List.map_map]; rfl
            rw [e]
            exact List.mem_cons_of_mem _ (List.mem_cons_of_mem _ U.mem.2)
          · exact (hI.2.up U nd₂ nD).cons.cons
    · rw [enu_length, List.drop_one, List.tail_cons, Tm.avs_length, List.take_length] at hI
      o_new
      refine fun nd => ⟨D, rfl, ?_, hI.2, nD⟩
      rw [partsL]
      exact hI.1
end
/-- what a pattern's names stand for -/
noncomputable abbrev Tab := List (Str × Tm)
noncomputable def tbAV (tb : Tab) : List (Str × AV) := tb.map fun p => (p.1, p.2.av)
theorem tbAV_lookup (tb : Tab) (x : Str) : (tbAV tb).lookup x = (tb.lookup x).map Tm.av := by
  induction tb with
  | nil => rfl
  | cons p tb ih =>
    obtain ⟨y, t⟩ := p
    rw [tbAV, List.map_cons, List.lookup_cons, List.lookup_cons]
    cases x == y with
    | true => rfl
    | false => exact ih
mutual
noncomputable def putT (tb : Tab) : Tm → Tm
  | .node op ks => if ks.isEmpty then (tb.lookup op).getD (.node op []) else .node op (putTs tb ks)
noncomputable def putTs (tb : Tab) : List Tm → List Tm
  | [] => []
  | k :: ks => putT tb k :: putTs tb ks
end
theorem putTs_map (tb : Tab) (l : List Tm) : putTs tb l = l.map (putT tb) := by
  induction l with
  | nil => rfl
  | cons k ks ih => rw [putTs, ih, List.map_cons]
section
variable {prog : Program} {w : World} {p : Program} {loose : List Str} {mean : ExcName → Option Value} {mg mb : Str → Option Value}
theorem put_ok {D : Addr} (lo : (D == sysModules) = false) {tb : Tab} : ∀ (n : Nat) (t : Tm) (η : Store), t.h ≤ n → n ≤ 900 → t.size ≤ 500 → (D, .dict (tbAV tb)) ∈ η →
    FnC (cx prog w p loose mean mg mb) 212 n [t.av, .val (.ref D)] η (fun v η' => v = (putT tb t).av ∧ η' = η) Exc.no := by
  intro n
  induction n with
  | zero => intro t η h; cases t; simp [Tm.h] at h
  | succ n ih =>
    intro t η h hn hz mD
    obtain ⟨op, ks⟩ := t
    refine .same (FnC.enter (body := [_, _]) (by with_unfolding_all rfl) (by with_unfolding_all rfl) ["pattern", "table"] rfl (fun s _ h => by apply len2.on h; intro _ _; exact .of_eq rfl) (by decide) (by decide) rfl rfl rfl fun g ok => ?_)
    rw [Tm.av]
    have hsz : Tm.sizes ks + 1 ≤ 500 := by rw [Tm.size] at hz; exact hz
    have ol : (AV.str op :: Tm.avs ks).length ≤ 1000000 := by
      rw [List.length_cons, Tm.avs_length]; have := Tm.length_le ks; lia
    have hh : Tm.hs ks ≤ n := by rw [Tm.h] at h; lia
    o_new
    refine Ev.callB (Ev.bltn (v := .builtin "len") ok (by with_unfolding_all rfl) (by kernel_rfl) (by decide) ⟨_, rfl, ?_⟩)
    o_new
    refine Op.lenT ol ?_
    o_new
    refine Op.eq ok (.here rfl) (.here rfl) .int .int ⟨_, rfl, fun q => ?_, fun q => ?_⟩
    · rw [eqv_int, List.length_cons, Tm.avs_length, beq_iff_eq] at q
      have hk : ks = [] := List.eq_nil_of_length_eq_zero (by lia)
      subst hk
      o_new
      refine Ev.methB ?_
      o_new
      refine ⟨_, _, .dict mD F.slot_dict_get F.type_dict_get, ?_⟩
      o_new
      refine Op.itemT (a := .str op) (by decide) rfl ol ?_ fun _ _ => ⟨_, rfl⟩
      o_new
      refine Op.dictGetD mD lo ⟨?_, fun p hp => hp⟩
      rw [tbAV_lookup, putT]
      cases tb.lookup op <;> simp [Tm.av, Tm.avs]
    · rw [eqv_int, List.length_cons, Tm.avs_length, beq_eq_false_iff_ne] at q
      have hk : ks.isEmpty = false := by
        cases ks with
        | nil => simp at q
        | cons a r => rfl
      o_new
      refine Op.itemT (a := .str op) (by decide) rfl ol ?_ fun _ _ => ⟨_, rfl⟩
      o_new
      refine ⟨bl, ?_⟩
      refine Ev.callTy (Ev.bltn (v := .type "tuple") ok (by with_unfolding_all rfl) (by kernel_rfl) (by decide) ⟨_, rfl, ?_⟩)
      o_new
      refine Ev.comp (ρ' := [("table", .val (.ref D))]) (n := n) ok rfl (by decide) rfl (by decide) (by decide) ?hρ ?_
      case hρ => exact fun C => lk1 ⟨rfl, rfl, rfl, rfl⟩ lk0
      o_new
      refine Ev.sliceFrom fun D' tk => ?_
      refine Op.sliceTFrom (l := .str op :: Tm.avs ks) (a := 1) (by decide) (by simp) ol ?_ fun _ _ => ⟨_, rfl⟩
      refine ⟨_, _, _, .tup, .none, by simp [Tm.avs_length]; have := Tm.length_le ks; lia, fun C => ?_⟩
      refine .map (fun a => (putT tb (tmOf a)).av) .none (fun d hd => ?_) ?_
      · rw [List.drop_one, List.tail_cons, Tm.avs_map] at hd
        refine ea1_2 (List.mem_map.mp hd) fun k hk yq2 => ?_; subst yq2
        have hks := Tm.size_mem hk
        refine ⟨_, .name rfl rfl, ?_⟩
        refine Ev.callK ok (Ev.glob (v := .ref 212) ok (by with_unfolding_all rfl) ⟨212, rfl, by with_unfolding_all rfl, ?_⟩)
        o_new
        rw [tmOf_av]
        exact Op.fn ok (ih k η (Nat.le_trans (Tm.h_mem hk) hh) (by lia) (by lia) mD) (Nat.le_refl _)
      · intro D₁
        rw [List.nil_append, List.drop_one, List.tail_cons, map_avs (h := fun t => (putT tb t).av) (fun t => by rw [tmOf_av])]
        o_new
        have kl := Tm.length_le ks
        refine Op.tupleL List.mem_cons_self (by rw [List.length_map]; lia) ?_
        refine Op.addT (by simp; lia) ⟨?_, fun p hp => by simp [hp]⟩
        rw [putT, hk, if_neg Bool.false_ne_true, Tm.av, putTs_map, Tm.avs_map, List.map_map]; rfl
end
mutual
/-- if the pattern meets the term, and what its names then stand for -/
noncomputable def metT : Tm → Tm → Tab → Bool × Tab
  | .node op ks, .node op' ks', tb =>
    if ks.isEmpty && (op.cps[0]? == Option.some 63) then
      match tb.lookup op with
      | Option.some u => (PyData.eqv u.av.pd (Tm.node op' ks').av.pd, tb)
      | none => (true, tb ++ [(op, .node op' ks')])
    else if op == op' && ks.length == ks'.length then metTs ks ks' tb else (false, tb)
noncomputable def metTs : List Tm → List Tm → Tab → Bool × Tab
  | k :: ks, u :: us, tb =>
    let r := metT k u tb
    let r' := metTs ks us r.2
    (r.1 && r'.1, r'.2)
  | _, _, tb => (true, tb)
end

theorem sizes_at : ∀ (l : List Tm) (i : Nat) {k : Tm}, l[i]? = Option.some k → Tm.sizes (l.take i) + k.size ≤ Tm.sizes l
  | [], i, k, h => by simp at h
  | a :: r, 0, k, h => by
    simp only [List.getElem?_cons_zero, Option.some.injEq] at h
    subst h; simp [Tm.sizes]
  | a :: r, i + 1, k, h => by
    rw [List.getElem?_cons_succ] at h
    have := sizes_at r i h
    rw [List.take_succ_cons, Tm.sizes, Tm.sizes]; lia
noncomputable def TbOk (tb : Tab) : Prop := ∀ q ∈ tb, q.2.ok = true ∧ q.2.h ≤ 45
theorem lookup_mem {α : Type} {l : List (Str × α)} {x : Str} {a : α} (h : l.lookup x = Option.some a) : (x, a) ∈ l := by
  induction l with
  | nil => cases h
  | cons p l ih =>
    obtain ⟨y, b⟩ := p
    rw [List.lookup_cons] at h
    cases q : x == y with
    | true => rw [q] at h; cases h; rw [beq_iff_eq.mp q]; exact List.mem_cons_self
    | false => rw [q] at h; exact List.mem_cons_of_mem _ (ih h)
mutual
theorem metT_ok : ∀ (p t : Tm) (tb : Tab), t.ok = true → t.h ≤ 45 → TbOk tb → TbOk (metT p t tb).2 ∧ (metT p t tb).2.length ≤ tb.length + p.size
  | .node op ks, .node op' ks', tb, h1, h2, h3 => by
    rw [metT, Tm.size]
    split
    · split
      · exact ⟨h3, by simp only; lia⟩
      · refine ⟨fun q hq => ?_, by simp⟩
        rcases List.mem_append.mp hq with hq | hq
        · exact h3 q hq
        · rw [List.mem_singleton] at hq; subst hq; exact ⟨h1, h2⟩
    · split
      · rw [Tm.ok, Bool.and_eq_true] at h1
        rw [Tm.h] at h2
        have := metTs_ok ks ks' tb h1.2 (by lia) h3
        exact ⟨this.1, by lia⟩
      · exact ⟨h3, by simp only; lia⟩
theorem metTs_ok : ∀ (p t : List Tm) (tb : Tab), Tm.oks t = true → Tm.hs t ≤ 45 → TbOk tb → TbOk (metTs p t tb).2 ∧ (metTs p t tb).2.length ≤ tb.length + Tm.sizes p
  | k :: ks, u :: us, tb, h1, h2, h3 => by
    rw [Tm.oks, Bool.and_eq_true] at h1
    rw [Tm.hs] at h2
    rw [metTs, Tm.sizes]
    have a := metT_ok k u tb h1.1 (by lia) h3
    have b := metTs_ok ks us (metT k u tb).2 h1.2 (by lia) a.1
    exact ⟨b.1, by have := a.2; have := b.2; simp only; lia⟩
  | [], _, tb, _, _, h3 => by simp [metTs]; exact h3
  | _ :: _, [], tb, _, _, h3 => by simp [metTs]; exact h3
end
theorem metTs_snoc (k u : Tm) : ∀ (ks us : List Tm) (tb : Tab), ks.length = us.length → metTs (ks ++ [k]) (us ++ [u]) tb = ((metTs ks us tb).1 && (metT k u (metTs ks us tb).2).1, (metT k u (metTs ks us tb).2).2)
  | [], [], tb, _ => by simp [metTs]
  | x :: ks, y :: us, tb, h => by
    rw [List.cons_append, List.cons_append, metTs, metTs, metTs_snoc k u ks us _ (by simpa using h)]
    simp only [Bool.and_assoc]
  | [], _ :: _, _, h => by simp at h
  | _ :: _, [], _, h => by simp at h
section
variable {prog : Program} {w : World} {p : Program} {loose : List Str} {mean : ExcName → Option Value} {mg mb : Str → Option Value}
theorem met_ok {D : Addr} (lo : (D == sysModules) = false) : ∀ (n : Nat) (t u : Tm) (tb : Tab) (η : Store), t.h ≤ n → n ≤ 900 → t.size ≤ 500 → u.size ≤ 500 → t.ok = true → u.ok = true → t.txt = true → u.h ≤ 45 → TbOk tb → tb.length + t.size ≤ 100000 → (D, .dict (tbAV tb)) ∈ η →
    FnC (cx prog w p loose mean mg mb) 207 n [t.av, u.av, .val (.ref D)] η (fun v η' => v = .bool (metT t u tb).1 ∧ η' = put D (.dict (tbAV (metT t u tb).2)) η) Exc.no := by
  intro n
  induction n with
  | zero => intro t u tb η h; cases t; simp [Tm.h] at h
  | succ n ih =>
    intro t u tb η h hn hz hzu hok hou htx hu htb htl mD
    obtain ⟨op, ks⟩ := t
    obtain ⟨op', us⟩ := u
    refine .nd fun nd₀ => ?_
    refine .less (Φ := fun v η' => v = .bool (metT (.node op ks) (.node op' us) tb).1 ∧ Keeps (put D (.dict (tbAV (metT (.node op ks) (.node op' us) tb).2)) η) η') (FnC.enter (body := [_, _, _]) (by with_unfolding_all rfl) (by with_unfolding_all rfl) ["pattern", "term", "table"] rfl (fun s _ h => by apply len3.on h; intro _ _ _; exact .of_eq rfl) (by decide) (by decide) rfl rfl rfl fun g ok => ?_)
      fun nd v η' zz => ⟨_, zz.2, by rw [put_keys]; exact nd, zz.1, rfl⟩
    have hua : ∃ l, (Tm.node op' us).av = .tup l := ⟨_, by rw [Tm.av]⟩
    rw [Tm.av, Tm.av]
    have hsz : Tm.sizes ks + 1 ≤ 500 := by rw [Tm.size] at hz; exact hz
    have hszu : Tm.sizes us + 1 ≤ 500 := by rw [Tm.size] at hzu; exact hzu
    have kl := Tm.length_le ks
    have ul := Tm.length_le us
    have ol : (AV.str op :: Tm.avs ks).length ≤ 1000000 := by
      rw [List.length_cons, Tm.avs_length]; lia
    have ol' : (AV.str op' :: Tm.avs us).length ≤ 1000000 := by
      rw [List.length_cons, Tm.avs_length]; lia
    have hh : Tm.hs ks ≤ n := by rw [Tm.h] at h; lia
    have okk : ∀ k ∈ ks, k.ok = true := by
      rw [Tm.ok, Bool.and_eq_true] at hok; exact Tm.oks_iff.mp hok.2
    have oku : ∀ k ∈ us, k.ok = true := by
      rw [Tm.ok, Bool.and_eq_true] at hou; exact Tm.oks_iff.mp hou.2
    have opk : PyData.strOk op = true := by rw [Tm.ok, Bool.and_eq_true] at hok; exact hok.1
    have opu : PyData.strOk op' = true := by rw [Tm.ok, Bool.and_eq_true] at hou; exact hou.1
    rw [Tm.txt, Bool.and_eq_true, Bool.and_eq_true] at htx
    refine ea0_2 htx fun zq4 hsk => ?_; try clear htx; refine ea0_2 zq4 fun hp hp2 => ?_; clear zq4
    have hp := of_decide_eq_true hp
    have hp2 := of_decide_eq_true hp2
    have hsk := Tm.txts_iff.mp hsk
    have nbu : (AV.tup (AV.str op' :: Tm.avs us)).nb = true := by have := Tm.av_nb (.node op' us) hou; rwa [Tm.av] at this
    have dpu : (AV.tup (AV.str op' :: Tm.avs us)).dep ≤ 45 := by have := Tm.av_dep (.node op' us); rw [Tm.av] at this; lia
    refine .cons (.if (Tt.mono (Φb := fun b η' => b = (ks.isEmpty && (op.cps[0]? == Option.some 63)) ∧ η' = η) ?_ fun b η' ⟨e1, e2⟩ => ?_))
    · o_new
      refine Ev.callB (Ev.bltn (v := .builtin "len") ok (by with_unfolding_all rfl) (by kernel_rfl) (by decide) ⟨_, rfl, ?_⟩)
      o_new
      refine Op.lenT ol ?_
      o_new
      refine Op.eq ok (.here rfl) (.here rfl) .int .int ⟨_, rfl, fun q => ?_, fun q => ?_⟩
      · rw [eqv_int, List.length_cons, Tm.avs_length, beq_iff_eq] at q
        have hk : ks = [] := List.eq_nil_of_length_eq_zero (by lia)
        subst hk
        o_new
        refine Op.itemT (a := .str op) (by decide) rfl ol ?_ fun _ _ => ⟨_, rfl⟩
        o_new
        refine Op.itemS (ch := op.cps[0]) (by decide) (by simp [hp]) (by lia) ?_ fun _ _ => ⟨_, rfl⟩
        o_new
        have e1 : PyData.eqv (AV.str ⟨#[op.cps[0]]⟩).pd (AV.str (Str.ofString "?")).pd = (op.cps[0]? == Option.some 63) := by
          rw [eqv_str]
          have := one_str op.cps[0] 63
          rw [show Str.ofString "?" = ⟨#[63]⟩ from by decide +kernel, this]
          by_cases q : op.cps[0] = 63 <;> simp [hp, q]
        refine Op.eq ok (.here rfl) (.here rfl) (.str (strOk_at opk hp)) (.str (by decide +kernel)) ⟨_, rfl, fun q => ?_, fun q => ?_⟩
        · rw [e1] at q
          o_new
          exact ⟨by rw [q]; rfl, rfl⟩
        · rw [e1] at q
          exact ⟨by rw [q]; rfl, rfl⟩
      · rw [eqv_int, List.length_cons, Tm.avs_length, beq_eq_false_iff_ne] at q
        refine ⟨?_, rfl⟩
        cases ks with
        | nil => simp at q
        | cons a r => rfl
    subst e2
    refine ⟨fun q => ?_, fun q => ?_⟩
    · rw [q] at e1
      have e1 := e1.symm
      o_new
      refine Ev.methB ?_
      o_new
      refine ⟨_, _, .dict mD F.slot_dict_setdefault F.type_dict_setdefault, ?_⟩
      o_new
      refine Op.itemT (a := .str op) (by decide) rfl ol ?_ fun _ _ => ⟨_, rfl⟩
      o_new
      rw [metT, if_pos e1]
      cases hl : tb.lookup op with
      | none =>
        have U := Up.put (o' := .dict (tbAV tb ++ [(op, .tup (AV.str op' :: Tm.avs us))])) nd₀ mD
        refine Op.setdefNew U lo (by rw [tbAV, List.length_map]; lia) (by rw [tbAV_lookup, hl]; rfl) ?_
        o_new
        refine Op.eq ok (.here (AV.nb_pure nbu)) (.here (AV.nb_pure nbu)) (AV.sh nbu (by lia)) (AV.sh nbu (by lia)) ⟨?_, ?_⟩
        · rw [(AV.nb_eqv nbu nbu).mpr rfl]
        · simp only [tbAV, List.map_append, List.map_cons, List.map_nil, Tm.av]
          exact Keeps.refl _
      | some v =>
        refine ea0_2 (htb _ (lookup_mem hl)) fun v1 v2 => ?_
        have v2 : v.h ≤ 45 := v2
        have nbv := Tm.av_nb v v1
        refine Op.setdefThere mD lo (by rw [tbAV, List.length_map]; lia) (av := v.av) (by rw [tbAV_lookup, hl]; rfl) ?_
        o_new
        refine Op.eq ok (.here (AV.nb_pure nbv)) (.here (AV.nb_pure nbu)) (AV.sh nbv (by rw [Tm.av_dep]; lia)) (AV.sh nbu (by lia)) ⟨?_, ?_⟩
        · simp only [Tm.av]
        · simp only [put_self nd₀ mD]; exact Keeps.refl _
    · rw [q] at e1
      have e1 := e1.symm
      o_new
      refine Op.itemT (a := .str op) (by decide) rfl ol ?_ fun _ _ => ⟨_, rfl⟩
      o_new
      refine Ev.callB (Ev.bltn (v := .builtin "len") ok (by with_unfolding_all rfl) (by kernel_rfl) (by decide) ⟨_, rfl, ?_⟩)
      o_new
      refine Op.lenT ol ?_
      o_new
      refine ⟨bl, ?_⟩
      o_new
      refine Op.itemT (a := .str op') (by decide) rfl ol' ?_ fun _ _ => ⟨_, rfl⟩
      o_new
      refine Ev.callB (Ev.bltn (v := .builtin "len") ok (by with_unfolding_all rfl) (by kernel_rfl) (by decide) ⟨_, rfl, ?_⟩)
      o_new
      refine Op.lenT ol' ?_
      o_new
      refine ⟨bl, ?_⟩
      have e3 : PyData.eqv (AV.tup [.str op, .int ((AV.str op :: Tm.avs ks).length : Nat)]).pd (AV.tup [.str op', .int ((AV.str op' :: Tm.avs us).length : Nat)]).pd = (op == op' && ks.length == us.length) := by
        simp only [AV.pd, AV.pds, PyData.eqv, PyData.eqvAll, Bool.and_true, List.length_cons, Tm.avs_length]
        congr 1
        rw [Bool.eq_iff_iff, beq_iff_eq, beq_iff_eq]; lia
      have nb1 : ∀ (x : Str) (n : Nat), PyData.strOk x = true → Sh (AV.tup [.str x, .int n]).pd := fun x n hx => AV.sh (by simp [AV.nb, AV.nbs, hx]) (by simp [AV.dep, AV.deps])
      refine Op.ne ok (.here rfl) (.here rfl) (nb1 _ _ opk) (nb1 _ _ opu) ⟨_, rfl, fun q2 => ?_, fun q2 => ?_⟩
      · rw [e3, Bool.not_eq_true'] at q2
        o_new
        rw [metT, if_neg (by rw [e1]; exact Bool.false_ne_true), if_neg (by rw [q2]; exact Bool.false_ne_true)]
        exact ⟨rfl, by simp only [put_self nd₀ mD]; exact Keeps.refl _⟩
      · rw [e3, Bool.not_eq_false'] at q2
        rw [metT, if_neg (by rw [e1]; exact Bool.false_ne_true), if_pos q2]
        rw [Bool.and_eq_true, beq_iff_eq, beq_iff_eq] at q2
        refine ea0_2 q2 fun yq5 hlen => ?_; try clear q2; subst yq5
        o_new
        refine Ev.comp (ρ' := [("pattern", .tup (AV.str op :: Tm.avs ks)), ("term", .tup (AV.str op :: Tm.avs us)), ("table", .val (.ref D))]) (n := n) ok rfl (by decide) rfl (by decide) (by decide) ?hρ ?_
        case hρ => exact fun C => lk1 ⟨rfl, rfl, rfl, rfl⟩ (lk1 ⟨rfl, rfl, rfl, rfl⟩ (lk1 ⟨rfl, rfl, rfl, rfl⟩ lk0))
        refine Ev.callTy (Ev.bltn (v := .type "range") ok (by with_unfolding_all rfl) (by kernel_rfl) (by decide) ⟨_, rfl, ?_⟩)
        o_new
        refine Ev.callB (Ev.bltn (v := .builtin "len") ok (by with_unfolding_all rfl) (by kernel_rfl) (by decide) ⟨_, rfl, ?_⟩)
        o_new
        refine Op.lenT ol' ?_
        o_new
        refine Op.range2 fun r t u v => ?_
        have hl' : ((AV.str op :: Tm.avs us).length : Int) = 1 + (us.length : Int) := by rw [List.length_cons, Tm.avs_length]; lia
        rw [hl']
        refine ⟨_, _, _, .range1 (by lia), .some List.mem_cons_self, by simp; lia, fun C => ?_⟩
        refine .invT (fun i acc η₁ => (r, AObj.raw (rangeO 1 (1 + (us.length : Int)) t u v)) ∈ η₁ ∧ Keeps (put D (.dict (tbAV (metTs (ks.take i) (us.take i) tb).2)) η') η₁ ∧ acc.isEmpty = (metTs (ks.take i) (us.take i) tb).1 ∧ ∀ a ∈ acc, ∃ j, a = AV.int j) _ (fun i acc η₁ h => .some h.1) (fun i d acc η₁ hd hI => ?_) (fun acc η₁ hI => ?_) ⟨List.mem_cons_self, ?_, rfl, by simp⟩
        · rw [List.getElem?_map] at hd
          cases hr : (List.range us.length)[i]? with
          | none => rw [hr] at hd; cases hd
          | some j =>
            refine ea1_1 (List.getElem?_eq_some_iff.mp hr) fun hi ej => ?_
            rw [List.length_range] at hi
            rw [List.getElem_range] at ej
            subst ej
            rw [hr] at hd
            simp only [Option.map_some, Option.some.injEq] at hd
            subst hd
            have hik : i < ks.length := by lia
            have ek : ks[i]? = some ks[i] := List.getElem?_eq_getElem hik
            have eu : us[i]? = some us[i] := List.getElem?_eq_getElem hi
            have mk := List.getElem_mem hik
            have mu := List.getElem_mem hi
            have tlen : (ks.take i).length = (us.take i).length := by rw [List.length_take, List.length_take]; lia
            have sk := Tm.size_mem mk
            have su := Tm.size_mem mu
            have tk := sizes_at ks i ek
            have hu1 : Tm.hs us ≤ 45 := by rw [Tm.h] at hu; lia
            have hou1 : Tm.oks us = true := by rw [Tm.ok, Bool.and_eq_true] at hou; exact hou.2
            have tok := metTs_ok (ks.take i) (us.take i) tb (Tm.oks_iff.mpr fun t ht => oku t (List.mem_of_mem_take ht)) (by
              have : ∀ (l : List Tm) i, Tm.hs (l.take i) ≤ Tm.hs l := by
                intro l
                induction l with
                | nil => intro i; simp
                | cons a r ihr => intro i; cases i with
                  | zero => simp [Tm.hs]
                  | succ i => rw [List.take_succ_cons, Tm.hs, Tm.hs]; have := ihr i; lia
              exact Nat.le_trans (this us i) hu1) htb
            refine ⟨_, .name rfl rfl, Tt.nd fun nd₁ => ?_⟩
            have mD₁ : (D, AObj.dict (tbAV (metTs (ks.take i) (us.take i) tb).2)) ∈ η₁ := hI.2.1 _ (put_mem mD)
            have rD : r ≠ D := fun q => by
              subst q
              have := Store.once nd₁ hI.1 mD₁
              cases this
            o_new
            refine Ev.callK ok (Ev.glob (v := .ref 207) ok (by with_unfolding_all rfl) ⟨207, rfl, by with_unfolding_all rfl, ?_⟩)
            o_new
            have ei : ((1 : Int) + (i : Int)).toNat = i + 1 := by lia
            refine Op.itemT (a := ks[i].av) (by lia) (by rw [ei, List.getElem?_cons_succ, Tm.avs_map, List.getElem?_map, ek]; rfl) ol ?_ fun _ _ => ⟨_, rfl⟩
            o_new
            refine Op.itemT (a := us[i].av) (by lia) (by rw [ei, List.getElem?_cons_succ, Tm.avs_map, List.getElem?_map, eu]; rfl) ol' ?_ fun _ _ => ⟨_, rfl⟩
            o_new
            refine Op.fn ok ((ih ks[i] us[i] _ η₁ (Nat.le_trans (Tm.h_mem mk) hh) (by lia) (by lia) (by lia) (okk _ mk) (oku _ mu) (hsk _ mk) (Nat.le_trans (Tm.h_mem mu) hu1) tok.1 (by have := tok.2; rw [Tm.size] at htl; lia) mD₁).mono fun v' η₂ zz => ?_) (Nat.le_refl _)
            refine ea0_2 zz fun yq6 yq7 => ?_; try clear zz; subst yq6; subst yq7
            o_new
            have keep : Keeps (put D (.dict (tbAV (metT ks[i] us[i] (metTs (ks.take i) (us.take i) tb).2).2)) η') (put D (.dict (tbAV (metT ks[i] us[i] (metTs (ks.take i) (us.take i) tb).2).2)) η₁) := fun p hp => by
              rw [← put_put D (.dict (tbAV (metTs (ks.take i) (us.take i) tb).2))] at hp
              exact Keeps.put hI.2.1 p hp
            have e5 := metTs_snoc ks[i] us[i] (ks.take i) (us.take i) tb tlen
            rw [← take_snoc ek, ← take_snoc eu] at e5
            rw [e5]
            refine ⟨.some (put_other hI.1 rD), fun q => ?_, fun q => ?_⟩
            · o_new
              refine ⟨put_other hI.1 rD, keep, ?_, ?_⟩
              · rw [Bool.not_eq_true'] at q
                rw [q, Bool.and_false]
                cases acc <;> rfl
              · intro a ha
                rcases List.mem_append.mp ha with ha | ha
                · exact hI.2.2.2 a ha
                · rw [List.mem_singleton] at ha; exact ⟨_, ha⟩
            · refine ⟨put_other hI.1 rD, keep, ?_, hI.2.2.2⟩
              rw [Bool.not_eq_false'] at q
              rw [q, Bool.and_true]; exact hI.2.2.1
        · rw [List.length_map, List.length_range, List.take_length, show ks.take us.length = ks from by rw [← hlen, List.take_length]] at hI
          intro D₁
          o_new
          refine ⟨bl, fun D₂ => ?_⟩
          have nba : AV.nbs acc = true := AV.nbs_iff.mpr fun a ha => by refine ea1_1 (hI.2.2.2 a ha) fun j yq8 => ?_; subst yq8; simp [AV.nb]
          have dpa : AV.deps acc ≤ 0 := AV.deps_le.mpr fun a ha => by refine ea1_1 (hI.2.2.2 a ha) fun j yq9 => ?_; subst yq9; simp [AV.dep]
          have lay := AV.nbs_lay nba
          refine Op.eq ok (.list (l := acc) (List.mem_cons_of_mem _ List.mem_cons_self) (AV.nbs_pures nba)) (.list (l := []) List.mem_cons_self rfl) (.list lay.1 (by lia)) (.list rfl (by decide)) ⟨?_, hI.2.1.cons.cons⟩
          rw [eqv_list0, hI.2.2.1]
        · simp only [List.take_zero, metTs]
          rw [put_self nd₀ mD]
          exact (Keeps.refl _).cons
end
/-- a rule as it lies -/
structure RuleD where
  x : Addr
  dx : Addr
  name : Str
  left : Tm
  right : Tm
noncomputable def RuleD.flds (r : RuleD) : List (Str × AV) := [("name", .str r.name), ("left", r.left.av), ("right", r.right.av), ("needs", .tup [])]
structure RuleD.Fine (r : RuleD) : Prop where
  lh : r.left.h ≤ 6
  rh : r.right.h ≤ 6
  ls : r.left.size ≤ 50
  rs : r.right.size ≤ 50
  lo : r.left.ok = true
  ro : r.right.ok = true
  lt : r.left.txt = true
  rt : r.right.txt = true
structure RulesIn (η : Store) (Ds : Addr) (rs : List RuleD) : Prop where
  list : (Ds, .list (rs.map fun r => AV.val (.ref r.x))) ∈ η
  inst : ∀ r ∈ rs, (r.x, .raw (instObj 113 r.dx)) ∈ η
  flds : ∀ r ∈ rs, (r.dx, .flds r.flds) ∈ η
theorem RulesIn.keeps {η η' : Store} {Ds : Addr} {rs : List RuleD} (h : RulesIn η Ds rs) (k : Keeps η η') : RulesIn η' Ds rs := ⟨k _ h.list, fun r hr => k _ (h.inst r hr), fun r hr => k _ (h.flds r hr)⟩
/-- what the first rule that meets makes of a term -/
noncomputable def first : List RuleD → Tm → Option Tm
  | [], _ => none
  | r :: rs, t => if (metT r.left t []).1 then Option.some (putT (metT r.left t []).2 r.right) else first rs t
noncomputable def fits (t : Tm) : Bool := decide (t.size ≤ 400) && decide (t.h ≤ 40) && t.ok
/-- each made into another, if all can be -/
noncomputable def mapO (g : Tm → Option Tm) : List Tm → Option (List Tm)
  | [] => Option.some []
  | k :: ks => (g k).bind fun u => (mapO g ks).map (u :: ·)
/-- turned from inside out, with so much patience -/
noncomputable def turn (rs : List RuleD) : Nat → Tm → Option Tm
  | 0, _ => none
  | n + 1, .node op ks => if fits (.node op ks) then (mapO (turn rs n) ks).bind fun ks' => if fits (.node op ks') then (match first rs (.node op ks') with | none => Option.some (.node op ks') | Option.some u => turn rs n u) else none else none
noncomputable abbrev turns (rs : List RuleD) (n : Nat) (ks : List Tm) : Option (List Tm) := mapO (turn rs n) ks
theorem turn_succ {rs : List RuleD} {n : Nat} {op : Str} {ks : List Tm} : turn rs (n + 1) (.node op ks) = if fits (.node op ks) then (turns rs n ks).bind fun ks' => if fits (.node op ks') then (match first rs (.node op ks') with | none => Option.some (.node op ks') | Option.some u => turn rs n u) else none else none := rfl
theorem mapO_some {g : Tm → Option Tm} {k : Tm} {ks us : List Tm} (h : mapO g (k :: ks) = Option.some us) : ∃ u us', g k = Option.some u ∧ mapO g ks = Option.some us' ∧ us = u :: us' := by
  replace h : (g k).bind (fun u => (mapO g ks).map (u :: ·)) = Option.some us := h
  cases h1 : g k with
  | none => rw [h1] at h; cases h
  | some u =>
    cases h2 : mapO g ks with
    | none => rw [h1, h2] at h; cases h
    | some us' => rw [h1, h2] at h; exact ⟨u, us', rfl, rfl, (Option.some.inj h).symm⟩

theorem turns_get {g : Tm → Option Tm} : ∀ {ks us : List Tm}, mapO g ks = Option.some us → us.length = ks.length ∧ ∀ (i : Nat) (k : Tm), ks[i]? = Option.some k → ∃ u, us[i]? = Option.some u ∧ g k = Option.some u := by
  intro ks
  induction ks with
  | nil => intro us h; cases Option.some.inj h; exact ⟨rfl, fun i k hk => by cases hk⟩
  | cons k ks ih =>
    intro us h
    refine ea2_3 (mapO_some h) fun u us' h1 h2 e => ?_
    have q := ih h2
    rw [e]
    refine ⟨congrArg (· + 1) q.1, fun i k' hk => ?_⟩
    cases i with
    | zero => exact ⟨u, rfl, Option.some.inj hk ▸ h1⟩
    | succ i => exact q.2 i k' hk
theorem fits_of {t : Tm} (h : fits t = true) : t.size ≤ 400 ∧ t.h ≤ 40 ∧ t.ok = true := by
  unfold fits at h
  rw [Bool.and_eq_true, Bool.and_eq_true, decide_eq_true_eq, decide_eq_true_eq] at h
  exact ⟨h.1.1, h.1.2, h.2⟩
section
variable {prog : Program} {w : World} {p : Program} {loose : List Str} {mean : ExcName → Option Value} {mg mb : Str → Option Value}
theorem turn_ok {Ds : Addr} {rs : List RuleD} (hf : ∀ r ∈ rs, r.Fine) (hrl : rs.length ≤ 1000) : ∀ (n : Nat) (t u : Tm) (η : Store), turn rs n t = Option.some u → n ≤ 800 → RulesIn η Ds rs →
    FnC (cx prog w p loose mean mg mb) 217 (n + 10) [t.av, .val (.ref Ds)] η (fun v η' => v = u.av ∧ η' = η) Exc.no := by
  intro n
  induction n with
  | zero => intro t u η h; cases (show (none : Option Tm) = Option.some u from h)
  | succ n ih =>
    intro t u η h hn hR
    obtain ⟨op, ks⟩ := t
    rw [turn_succ] at h
    split at h
    · rename_i fit
      refine ea0_3 (fits_of fit) fun hz hh hok => ?_
      cases hks : turns rs n ks with
      | none => rw [hks] at h; cases h
      | some us =>
        rw [hks] at h
        simp only [Option.bind_some] at h
        split at h
        · rename_i fit'
          refine ea0_3 (fits_of fit') fun hz' hh' hok' => ?_
          refine ea0_2 (turns_get hks) fun ulen uget => ?_
          refine .same (FnC.enter (body := [_, _, _]) (n := n + 10) (by with_unfolding_all rfl) (by with_unfolding_all rfl) ["term", "some"] rfl (fun s _ h => by apply len2.on h; intro _ _; exact .of_eq rfl) (by decide) (by decide) rfl rfl rfl fun g ok => ?_)
          rw [Tm.av]
          have hsz : Tm.sizes ks + 1 ≤ 400 := by rw [Tm.size] at hz; exact hz
          have kl := Tm.length_le ks
          have ol : (AV.str op :: Tm.avs ks).length ≤ 1000000 := by
            rw [List.length_cons, Tm.avs_length]; lia
          refine .cons (.assign ok (.inl rfl) ?_)
          o_new
          refine Op.itemT (a := .str op) (by decide) rfl ol ?_ fun _ _ => ⟨_, rfl⟩
          o_new
          refine ⟨bl, ?_⟩
          refine Ev.callTy (Ev.bltn (v := .type "tuple") ok (by with_unfolding_all rfl) (by kernel_rfl) (by decide) ⟨_, rfl, ?_⟩)
          o_new
          refine Ev.comp (ρ' := [("some", .val (.ref Ds))]) (n := n + 10) ok rfl (by decide) rfl (by decide) (by decide) ?hρ ?_
          case hρ => exact fun C => lk1 ⟨rfl, rfl, rfl, rfl⟩ lk0
          o_new
          refine Ev.sliceFrom fun D' tk => ?_
          refine Op.sliceTFrom (l := .str op :: Tm.avs ks) (a := 1) (by decide) (by simp) ol ?_ fun _ _ => ⟨_, rfl⟩
          refine ⟨_, _, _, .tup, .none, by simp [Tm.avs_length]; lia, fun C => ?_⟩
          refine .map (fun a => ((turn rs n (tmOf a)).getD (.node default [])).av) .none (fun d hd => ?_) ?_
          · rw [List.drop_one, List.tail_cons, Tm.avs_map] at hd
            refine ea1_2 (List.mem_map.mp hd) fun k hk yq2 => ?_; subst yq2
            refine ea1_1 (List.getElem?_of_mem hk) fun i hi => ?_
            refine ea1_2 (uget i k hi) fun u' hu1 hu2 => ?_
            refine ⟨_, .name rfl rfl, ?_⟩
            refine Ev.callK ok (Ev.glob (v := .ref 217) ok (by with_unfolding_all rfl) ⟨217, rfl, by with_unfolding_all rfl, ?_⟩)
            o_new
            rw [tmOf_av, hu2]
            exact Op.fn ok (ih k u' η hu2 (by lia) hR) (Nat.le_refl _)
          · intro D₁
            have e1 : List.map (fun a => ((turn rs n (tmOf a)).getD (.node default [])).av) (List.drop 1 (AV.str op :: Tm.avs ks)) = Tm.avs us := by
              rw [List.drop_one, List.tail_cons, map_avs (h := fun t => ((turn rs n t).getD (.node default [])).av) (fun t => by rw [tmOf_av]), Tm.avs_map]
              apply List.ext_getElem?
              intro i
              rw [List.getElem?_map, List.getElem?_map]
              cases hi : ks[i]? with
              | none =>
                have : us[i]? = none := by rw [List.getElem?_eq_none_iff] at hi ⊢; lia
                rw [this]; rfl
              | some k =>
                refine ea1_2 (uget i k hi) fun u' hu1 hu2 => ?_
                rw [hu1]; simp [hu2]
            rw [List.nil_append, e1]
            o_new
            refine Op.tupleL List.mem_cons_self (by rw [Tm.avs_length]; lia) ?_
            refine Op.addT (by simp [Tm.avs_length]; lia) ?_
            have e2 : [AV.str op] ++ Tm.avs us = AV.str op :: Tm.avs us := rfl
            rw [e2]
            o_new
            refine Ex.forI [("term", .tup (AV.str op :: Tm.avs us)), ("some", .val (.ref Ds))] (lk1 rfl (lk1 rfl lk0)) ?_
            o_new
            have hR₁ := hR.keeps (η' := (D₁, AObj.list (Tm.avs us)) :: η) (Keeps.refl η).cons
            refine ⟨_, _, _, .list (l := rs.map fun r => AV.val (.ref r.x)), fun i η' => Keeps η η' ∧ first (rs.drop i) (.node op us) = first rs (.node op us), ⟨(Keeps.refl η).cons, rfl⟩, fun i η' h => Dep.some (hR.keeps h.1).list, fun i d hd η₁ hI => ?_, fun η₁ hI => ?_⟩
            · rw [List.getElem?_map] at hd
              cases hi : rs[i]? with
              | none => rw [hi] at hd; cases hd
              | some r =>
                rw [hi] at hd
                simp only [Option.map_some, Option.some.injEq] at hd
                subst hd
                refine ea1_1 (List.getElem?_eq_some_iff.mp hi) fun hlt er => ?_
                have mr : r ∈ rs := List.mem_of_getElem? hi
                have fr := hf r mr
                have hR₂ := hR.keeps hI.1
                have edrop : first (rs.drop i) (.node op us) = if (metT r.left (.node op us) []).1 then Option.some (putT (metT r.left (.node op us) []).2 r.right) else first (rs.drop (i + 1)) (.node op us) := by
                  rw [List.drop_eq_getElem_cons hlt, er, first]
                rw [hI.2] at edrop
                refine ⟨_, .name ok (.inl rfl), ?_⟩
                refine .cons (.assign ok (.inl rfl) ?_)
                refine Ev.dict0 ok fun Dt lo => ?_
                refine .cons (.if (Tt.mono (Φb := fun b η' => b = (metT r.left (.node op us) []).1 ∧ η' = (Dt, AObj.dict (tbAV (metT r.left (.node op us) []).2)) :: η₁) (Tt.nd fun ndt => ?_) fun b η' ⟨e1, e2⟩ => ?_))
                · o_new
                  refine Ev.callK ok (Ev.glob (v := .ref 207) ok (by with_unfolding_all rfl) ⟨207, rfl, by with_unfolding_all rfl, ?_⟩)
                  refine Evs.cons (Ev.attr (a := r.x) (dx := r.dx) (C := 113) (l := r.flds) ok rfl (List.mem_cons_of_mem _ (hR₂.inst r mr)) (List.mem_cons_of_mem _ (hR₂.flds r mr)) (av := r.left.av) rfl (by cases r.left; rfl) (by with_unfolding_all rfl) (by with_unfolding_all rfl) (by with_unfolding_all rfl) (by with_unfolding_all rfl) ?_)
                  o_new
                  have hsu : Tm.sizes us + 1 ≤ 400 := by rw [Tm.size] at hz'; exact hz'
                  have e3 : AV.tup (AV.str op :: Tm.avs us) = (Tm.node op us).av := by rw [Tm.av]
                  rw [e3]
                  have fls := fr.ls
                  have flh := fr.lh
                  refine Op.fn ok ((met_ok lo 6 r.left (.node op us) [] _ flh (by decide) (by lia) (by lia) fr.lo hok' fr.lt (by lia) (by intro q hq; cases hq) (by simp; lia) List.mem_cons_self).to ?_) (by lia)
                  o_new
                  exact ⟨rfl, put_head (List.nodup_cons.mp ndt).1⟩
                · subst e2
                  refine ⟨fun q => ?_, fun q => ?_⟩
                  · rw [q] at e1
                    rw [← e1, if_pos rfl] at edrop
                    rw [edrop] at h
                    simp only at h
                    refine .cons (.ret ?_)
                    refine Ev.callK ok (Ev.glob (v := .ref 217) ok (by with_unfolding_all rfl) ⟨217, rfl, by with_unfolding_all rfl, ?_⟩)
                    refine Evs.cons ?_
                    refine Ev.callK ok (Ev.glob (v := .ref 212) ok (by with_unfolding_all rfl) ⟨212, rfl, by with_unfolding_all rfl, ?_⟩)
                    refine Evs.cons (Ev.attr (a := r.x) (dx := r.dx) (C := 113) (l := r.flds) ok rfl (List.mem_cons_of_mem _ (hR₂.inst r mr)) (List.mem_cons_of_mem _ (hR₂.flds r mr)) (av := r.right.av) rfl (by cases r.right; rfl) (by with_unfolding_all rfl) (by with_unfolding_all rfl) (by with_unfolding_all rfl) (by with_unfolding_all rfl) ?_)
                    o_new
                    have frs := fr.rs
                    have frh := fr.rh
                    refine Op.fn ok ((put_ok lo 6 r.right _ frh (by decide) (by lia) List.mem_cons_self).to ?_) (by lia)
                    o_new
                    refine Op.fn ok ((ih _ u _ h (by lia) (hR₂.keeps (Keeps.refl _).cons)).to ?_) (Nat.le_refl _)
                    exact ⟨rfl, hI.1.cons⟩
                  · rw [q] at e1
                    rw [← e1, if_neg Bool.false_ne_true] at edrop
                    o_new
                    exact ⟨lk1 rfl (lk1 rfl lk0), hI.1.cons, edrop.symm⟩
            · rw [List.length_map, List.drop_length, first] at hI
              rw [← hI.2] at h
              o_new
              refine ⟨?_, hI.1⟩
              rw [← Option.some.inj h, Tm.av]
        · cases h
    · cases h
end
noncomputable def pqr (k : Nat) : Str := if k = 0 then Str.ofString "p" else if k = 1 then Str.ofString "q" else Str.ofString "r"
/-- a short list as a term -/
noncomputable def shortT : List Nat → Tm
  | [] => .node (Str.ofString "nil") []
  | x :: l => .node (Str.ofString "cons") [.node (pqr x) [], shortT l]
theorem dipV_range (cells : List Int) (spot : Nat) {many : Int} (h : 0 < many) : 0 ≤ dipV cells spot many ∧ dipV cells spot many < many := by
  unfold dipV
  rw [Int.fmod_eq_emod_of_nonneg _ (Int.le_of_lt h)]
  exact ⟨Int.emod_nonneg _ (Int.ne_of_gt h), Int.emod_lt_of_pos _ h⟩
section
variable {prog : Program} {w : World} {p : Program} {loose : List Str} {mean : ExcName → Option Value} {mg mb : Str → Option Value}
theorem short_ok {T C : Addr} {cells : List Int} {spot : Nat} {η : Store} (mT : (T, tapeL C spot) ∈ η) (mC : (C, .list (iList cells)) ∈ η) (hz : cells.length ≤ 1000000) (hs : spot ≤ 10000) :
    FnC (cx prog w p loose mean mg mb) 202 2 [.val (.ref T)] η (fun v η' => ∃ l : List Nat, l.length ≤ 2 ∧ (∀ x ∈ l, x < 3) ∧ v = (shortT l).av ∧ η' = put T (tapeL C (spot + 1 + l.length)) η) Exc.no := by
  refine .nd fun nd₀ => ?_
  have ne : C ≠ T := fun q => by
    subst q
    have := AObj.list.inj (Store.once nd₀ mT mC)
    cases cells <;> cases this
  refine .less (Φ := fun v η' => ∃ l : List Nat, l.length ≤ 2 ∧ (∀ x ∈ l, x < 3) ∧ v = (shortT l).av ∧ Keeps (put T (tapeL C (spot + 1 + l.length)) η) η') (FnC.enter (body := [_, _, _]) (by with_unfolding_all rfl) (by with_unfolding_all rfl) ["tape"] rfl (fun s _ h => by apply len1.on h; intro _; exact .of_eq rfl) (by decide) (by decide) rfl rfl rfl fun g ok => ?_)
    fun nd v η' zz => ea1_4 zz fun l h1 h2 e k => ⟨_, k, by rw [put_keys]; exact nd, l, h1, h2, e, rfl⟩
  refine .cons (.assign ok (.inl rfl) ?_)
  o_new
  refine ⟨bl, ?_⟩
  o_new
  refine Ex.forL [("found", .tup [.str "nil"]), ("tape", .val (.ref T))] (lk1 rfl (lk1 rfl lk0)) ?_
  refine Ev.callTy (Ev.bltn (v := .type "range") ok (by with_unfolding_all rfl) (by kernel_rfl) (by decide) ⟨_, rfl, ?_⟩)
  refine Evs.cons ?_
  refine Ev.callK ok (Ev.glob (v := .ref 164) ok (by with_unfolding_all rfl) ⟨164, rfl, by with_unfolding_all rfl, ?_⟩)
  o_new
  refine Op.fn ok ((dip_ok mT mC hz (by lia) (by decide)).to ?_) (by decide)
  obtain ⟨d0, d1⟩ := dipV_range cells spot (many := 3) (by decide)
  refine ea1_1 (Int.eq_ofNat_of_zero_le d0) fun m hm => ?_
  rw [hm] at d1 ⊢
  have hm3 : m < 3 := by lia
  o_new
  refine Op.range1 fun r t u v => ?_
  refine ⟨_, _, _, .range0 (by lia), fun i ρ η' => ∃ l : List Nat, l.length = i ∧ (∀ x ∈ l, x < 3) ∧ ρ = ([("found", (shortT l).av), ("tape", .val (.ref T))] : Locals) ∧ (r, AObj.raw (rangeO 0 (m : Int) t u v)) ∈ η' ∧ Keeps (put T (tapeL C (spot + 1 + i)) η) η', ⟨[], rfl, by simp, by rw [shortT, Tm.av, Tm.avs], List.mem_cons_self, (Keeps.refl _).cons⟩, fun i ρ η' zz => ea1_5 zz fun _ _ _ _ h _ => .some h, fun i d hd ρ₁ η₁ hI => ?_, fun ρ₁ η₁ hI => ?_⟩
  · refine ea1_5 hI fun l h1 h2 yq2 h4 h5 => ?_; try clear hI; subst yq2
    have hi : i < m := by
      have := (List.getElem?_eq_some_iff.mp hd).1
      rwa [List.length_map, List.length_range] at this
    refine ⟨_, .name ok (.inl rfl), ?_⟩
    with_reducible refine Exs.nd fun nd₁ => ?_
    have mT₁ : (T, tapeL C (spot + 1 + i)) ∈ η₁ := h5 _ (put_mem mT)
    have mC₁ : (C, AObj.list (iList cells)) ∈ η₁ := h5 _ (put_other mC ne)
    have rT : r ≠ T := fun q => by
      subst q
      have := Store.once nd₁ h4 mT₁
      cases this
    with_reducible refine Exs.cons ?_
    refine Ex.assign ok (.inl rfl) ?_ (by kernel_rfl)
    o_new
    refine ⟨bl, fun D => ?_⟩
    with_reducible refine Ev.nd fun nd₂ => ?_
    have DT : D ≠ T := fun q => (List.nodup_cons.mp nd₂).1 (q ▸ List.mem_map_of_mem (f := (·.1)) mT₁)
    have ep : put T (tapeL C (spot + 1 + i + 1)) ((D, AObj.list [AV.str "p", AV.str "q", AV.str "r"]) :: η₁) = (D, AObj.list [AV.str "p", AV.str "q", AV.str "r"]) :: put T (tapeL C (spot + 1 + i + 1)) η₁ := put_cons DT
    refine Ev.callK ok (Ev.glob (v := .ref 164) ok (by with_unfolding_all rfl) ⟨164, rfl, by with_unfolding_all rfl, ?_⟩)
    o_new
    refine Op.fn ok ((dip_ok (η := (D, AObj.list [AV.str "p", AV.str "q", AV.str "r"]) :: η₁) (List.mem_cons_of_mem _ mT₁) (List.mem_cons_of_mem _ mC₁) hz (by lia) (by decide)).to ?_) (by decide)
    obtain ⟨d0, d1⟩ := dipV_range cells (spot + 1 + i) (many := 3) (by decide)
    refine ea1_1 (Int.eq_ofNat_of_zero_le d0) fun k hk => ?_
    rw [hk] at d1 ⊢
    have hk3 : k < 3 := by lia
    refine Op.itemL (l := [AV.str "p", AV.str "q", AV.str "r"]) (a := .str (pqr k)) (D := D) ?_ (by lia) ?_ bl ?_ fun _ _ => ⟨_, rfl⟩
    · rw [ep]; exact List.mem_cons_self
    · rw [Int.toNat_natCast]
      match k, hk3 with
      | 0, _ => rfl
      | 1, _ => rfl
      | 2, _ => rfl
    o_new
    refine ⟨bl, ?_⟩
    o_new
    refine ⟨bl, ?_⟩
    o_new
    refine ⟨[("found", (shortT (k :: l)).av), ("tape", .val (.ref T))], lk1 ?_ (lk1 rfl lk0), k :: l, by simp [h1], ?_, rfl, ?_, ?_⟩
    · rw [shortT]; rfl
    · intro x hx
      rcases List.mem_cons.mp hx with rfl | hx
      · exact hk3
      · exact h2 x hx
    · rw [ep]; exact List.mem_cons_of_mem _ (put_other h4 rT)
    · rw [ep]
      refine Keeps.cons fun p hp => ?_
      rw [← put_put T (tapeL C (spot + 1 + i))] at hp
      exact Keeps.put h5 p hp
  · refine ea1_5 hI fun l h1 h2 yq3 h4 h5 => ?_; try clear hI; subst yq3
    rw [List.length_map, List.length_range] at h1 h5
    o_new
    exact ⟨l, by lia, h2, rfl, by rw [h1]; exact h5⟩
end
noncomputable def dN : Nat → Nat
  | 0 => 1
  | d + 1 => 2 * dN d + 2
noncomputable def dS : Nat → Nat
  | 0 => 1
  | d + 1 => 2 * dS d + 1
/-- a drawn term -/
structure Drawn1 (d : Nat) (t : Tm) : Prop where
  h : t.h ≤ d + 1
  size : t.size ≤ dS d
  ok : t.ok = true
  txt : t.txt = true
noncomputable def menu7 : List AV := [.tup [.str "nil"], .tup [.str "one"], .tup [.str "two"], .tup [.str "three"], .tup [.str "few"], .tup [.str "many"], .tup [.str "lost"]]
noncomputable def leaf7 (k : Nat) : Tm := .node (match k with | 0 => Str.ofString "nil" | 1 => Str.ofString "one" | 2 => Str.ofString "two" | 3 => Str.ofString "three" | 4 => Str.ofString "few" | 5 => Str.ofString "many" | _ => Str.ofString "lost") []
theorem leaf7_at {k : Nat} (h : k < 7) : menu7[k]? = some (leaf7 k).av := by
  have e : menu7 = (List.range 7).map fun k => (leaf7 k).av := by rfl
  rw [e, List.getElem?_map, List.getElem?_range h]; rfl
theorem dS_pos (d : Nat) : 1 ≤ dS d := by cases d <;> simp [dS]
theorem leaf7_ok (d : Nat) {k : Nat} (h : k < 7) : Drawn1 d (leaf7 k) := by
  have := dS_pos d
  refine ⟨by simp [leaf7, Tm.h, Tm.hs], by simp [leaf7, Tm.size, Tm.sizes]; lia, ?_, ?_⟩
  · match k, h with
    | 0, _ | 1, _ | 2, _ | 3, _ | 4, _ | 5, _ | 6, _ => (simp only [leaf7, Tm.ok, Tm.oks, Bool.and_true]; decide +kernel)
  · match k, h with
    | 0, _ | 1, _ | 2, _ | 3, _ | 4, _ | 5, _ | 6, _ => (simp only [leaf7, Tm.txt, Tm.txts, Bool.and_true]; decide +kernel)
theorem one_ok {d : Nat} {t : Tm} {op : Str} (h : Drawn1 d t) (h1 : PyData.strOk op = true) (h2 : (decide (0 < op.cps.size) && decide (op.length ≤ 1000)) = true) : Drawn1 (d + 1) (.node op [t]) := by
  obtain ⟨a, b, e, g⟩ := h
  refine ⟨?_, ?_, ?_, ?_⟩
  · simp only [Tm.h, Tm.hs]; lia
  · simp only [Tm.size, Tm.sizes, dS]; lia
  · simp only [Tm.ok, Tm.oks, h1, e]; rfl
  · simp only [Tm.txt, Tm.txts, h2, g]; rfl
theorem two_ok {d : Nat} {t u : Tm} {op : Str} (h : Drawn1 d t) (k : Drawn1 d u) (h1 : PyData.strOk op = true) (h2 : (decide (0 < op.cps.size) && decide (op.length ≤ 1000)) = true) : Drawn1 (d + 1) (.node op [t, u]) := by
  obtain ⟨a, b, e, g⟩ := h
  obtain ⟨a', b', e', g'⟩ := k
  refine ⟨?_, ?_, ?_, ?_⟩
  · simp only [Tm.h, Tm.hs]; lia
  · simp only [Tm.size, Tm.sizes, dS]; lia
  · simp only [Tm.ok, Tm.oks, h1, e, e']; rfl
  · simp only [Tm.txt, Tm.txts, h2, g, g']; rfl
section
variable {prog : Program} {w : World} {p : Program} {loose : List Str} {mean : ExcName → Option Value} {mg mb : Str → Option Value}
theorem drawn_ok {T C : Addr} {cells : List Int} (hz : cells.length ≤ 1000000) : ∀ (d spot : Nat) (η : Store), d ≤ 5 → spot + dN d ≤ 10000 → (T, tapeL C spot) ∈ η → (C, .list (iList cells)) ∈ η →
    FnC (cx prog w p loose mean mg mb) 195 (d + 2) [.val (.ref T), .int (d : Int)] η (fun v η' => ∃ (t : Tm) (k : Nat), Drawn1 d t ∧ k ≤ dN d ∧ v = t.av ∧ η' = put T (tapeL C (spot + k)) η) Exc.no := by
  intro d
  induction d with
  | zero =>
    intro spot η hd hs mT mC
    refine .nd fun nd₀ => ?_
    have ne : C ≠ T := fun q => by
      subst q
      have := AObj.list.inj (Store.once nd₀ mT mC)
      cases cells <;> cases this
    refine .less (Φ := fun v η' => ∃ (t : Tm) (k : Nat), Drawn1 0 t ∧ k ≤ dN 0 ∧ v = t.av ∧ Keeps (put T (tapeL C (spot + k)) η) η') (FnC.enter (body := [_, _, _, _, _, _]) (by with_unfolding_all rfl) (by with_unfolding_all rfl) ["tape", "deep"] rfl (fun s _ h => by apply len2.on h; intro _ _; exact .of_eq rfl) (by decide) (by decide) rfl rfl rfl fun g ok => ?_)
      fun nd v η' zz => ea2_4 zz fun t k h1 h2 e kk => ⟨_, kk, by rw [put_keys]; exact nd, t, k, h1, h2, e, rfl⟩
    refine .cons (.assign ok (.inl rfl) ?_)
    o_new
    refine Op.gt ⟨_, rfl, (fun q => by simp at q), fun _ => ?_⟩
    o_new
    refine Op.lt ⟨_, rfl, fun _ => ?_, (fun q => by simp at q)⟩
    o_new
    iterate 7 (refine ⟨bl, ?_⟩; o_new)
    refine ⟨bl, fun D => ?_⟩
    with_reducible refine Ev.nd fun nd₂ => ?_
    have DT : D ≠ T := fun q => (List.nodup_cons.mp nd₂).1 (q ▸ List.mem_map_of_mem (f := (·.1)) mT)
    refine Ev.callK ok (Ev.glob (v := .ref 164) ok (by with_unfolding_all rfl) ⟨164, rfl, by with_unfolding_all rfl, ?_⟩)
    o_new
    refine Op.fn ok ((dip_ok (η := (D, AObj.list menu7) :: η) (List.mem_cons_of_mem _ mT) (List.mem_cons_of_mem _ mC) hz (by lia) (by decide)).to ?_) (by lia)
    obtain ⟨d0, d1⟩ := dipV_range cells spot (many := 7) (by decide)
    refine ea1_1 (Int.eq_ofNat_of_zero_le d0) fun k hk => ?_
    rw [hk] at d1 ⊢
    have hk3 : k < 7 := by lia
    refine Op.itemL (l := menu7) (a := (leaf7 k).av) (D := D) (by rw [put_cons DT]; exact List.mem_cons_self) (by lia) (by rw [Int.toNat_natCast]; exact leaf7_at hk3) bl ?_ fun _ _ => ⟨_, rfl⟩
    refine ⟨leaf7 k, 1, leaf7_ok 0 hk3, Nat.le_refl _, rfl, ?_⟩
    rw [put_cons DT]
    exact (Keeps.refl _).cons
  | succ d ih =>
    intro spot η hd hs mT mC
    have hdN : dN (d + 1) = 2 * dN d + 2 := rfl
    refine .nd fun nd₀ => ?_
    have ne : C ≠ T := fun q => by
      subst q
      have := AObj.list.inj (Store.once nd₀ mT mC)
      cases cells <;> cases this
    refine .less (Φ := fun v η' => ∃ (t : Tm) (k : Nat), Drawn1 (d + 1) t ∧ k ≤ dN (d + 1) ∧ v = t.av ∧ Keeps (put T (tapeL C (spot + k)) η) η') (FnC.enter (body := [_, _, _, _, _, _]) (n := d + 2) (by with_unfolding_all rfl) (by with_unfolding_all rfl) ["tape", "deep"] rfl (fun s _ h => by apply len2.on h; intro _ _; exact .of_eq rfl) (by decide) (by decide) rfl rfl rfl fun g ok => ?_)
      fun nd v η' zz => ea2_4 zz fun t k h1 h2 e kk => ⟨_, kk, by rw [put_keys]; exact nd, t, k, h1, h2, e, rfl⟩
    refine .cons (.assign ok (.inl rfl) ?_)
    o_new
    refine Op.gt ⟨_, rfl, fun _ => ?_, fun q => ?_⟩
    case refine_2 => have := of_decide_eq_false q; lia
    refine Ev.callK ok (Ev.glob (v := .ref 164) ok (by with_unfolding_all rfl) ⟨164, rfl, by with_unfolding_all rfl, ?_⟩)
    o_new
    refine Op.fn ok ((dip_ok mT mC hz (by lia) (by decide)).to ?_) (by lia)
    obtain ⟨w0, w1⟩ := dipV_range cells spot (many := 9) (by decide)
    refine ea1_1 (Int.eq_ofNat_of_zero_le w0) fun way hw => ?_
    rw [hw] at w1 ⊢
    have mT₁ : (T, tapeL C (spot + 1)) ∈ put T (tapeL C (spot + 1)) η := put_mem mT
    have mC₁ : (C, AObj.list (iList cells)) ∈ put T (tapeL C (spot + 1)) η := put_other mC ne
    o_new
    refine Op.lt ⟨_, rfl, fun q => ?_, fun q => ?_⟩
    · o_new
      iterate 7 (refine ⟨bl, ?_⟩; o_new)
      refine ⟨bl, fun D => ?_⟩
      with_reducible refine Ev.nd fun nd₂ => ?_
      have DT : D ≠ T := fun q => (List.nodup_cons.mp nd₂).1 (by show D ∈ _; rw [q]; exact List.mem_map_of_mem (f := (·.1)) mT₁)
      refine Ev.callK ok (Ev.glob (v := .ref 164) ok (by with_unfolding_all rfl) ⟨164, rfl, by with_unfolding_all rfl, ?_⟩)
      o_new
      refine Op.fn ok ((dip_ok (η := (D, AObj.list menu7) :: put T (tapeL C (spot + 1)) η) (List.mem_cons_of_mem _ mT₁) (List.mem_cons_of_mem _ mC₁) hz (by lia) (by decide)).to ?_) (by lia)
      obtain ⟨d0, d1⟩ := dipV_range cells (spot + 1) (many := 7) (by decide)
      refine ea1_1 (Int.eq_ofNat_of_zero_le d0) fun k hk => ?_
      rw [hk] at d1 ⊢
      have hk3 : k < 7 := by lia
      refine Op.itemL (l := menu7) (a := (leaf7 k).av) (D := D) (by rw [put_cons DT]; exact List.mem_cons_self) (by lia) (by rw [Int.toNat_natCast]; exact leaf7_at hk3) bl ?_ fun _ _ => ⟨_, rfl⟩
      refine ⟨leaf7 k, 2, leaf7_ok (d + 1) hk3, by lia, rfl, ?_⟩
      rw [put_cons DT, put_put]
      exact (Keeps.refl _).cons
    · o_new
      refine Ex.assign ok (.inl rfl) ?_
      refine Ev.list (Evs.cons ?_)
      refine Ev.callK ok (Ev.glob (v := .ref 195) ok (by with_unfolding_all rfl) ⟨195, rfl, by with_unfolding_all rfl, ?_⟩)
      o_new
      refine Op.sub ?_
      have ed : (((d + 1 : Nat) : Int) - 1) = (d : Int) := by lia
      rw [ed]
      o_new
      refine Op.fn ok ((ih (spot + 1) _ (by lia) (by lia) mT₁ mC₁).mono fun v η' zz => ?_) (Nat.le_refl _)
      refine ea2_4 zz fun t1 k1 g1 b1 e1 e2 => ?_; try clear zz
      rw [put_put] at e2
      subst e1 e2
      o_new
      refine ⟨bl, fun D => ?_⟩
      with_reducible refine Exs.nd fun nd₂ => ?_
      have mT₂ : (T, tapeL C (spot + 1 + k1)) ∈ put T (tapeL C (spot + 1 + k1)) η := put_mem mT
      have mC₂ : (C, AObj.list (iList cells)) ∈ put T (tapeL C (spot + 1 + k1)) η := put_other mC ne
      have DT : D ≠ T := fun q => (List.nodup_cons.mp nd₂).1 (by show D ∈ _; rw [q]; exact List.mem_map_of_mem (f := (·.1)) mT₂)
      o_new
      refine Op.lt ⟨_, rfl, fun q => ?_, fun q => ?_⟩
      · o_new
        refine Op.itemL (l := [t1.av]) (a := t1.av) List.mem_cons_self (by decide) rfl bl ?_ fun _ _ => ⟨_, rfl⟩
        o_new
        refine ⟨bl, .node "rev" [t1], 1 + k1, one_ok g1 (by decide +kernel) (by decide +kernel), by lia, by simp only [Tm.av, Tm.avs], ?_⟩
        rw [← Nat.add_assoc]
        exact (Keeps.refl _).cons
      · o_new
        refine Ev.methB ?_
        o_new
        refine ⟨_, _, .list List.mem_cons_self F.slot_list_append F.type_list_append, ?_⟩
        refine Evs.cons ?_
        refine Ev.callK ok (Ev.glob (v := .ref 195) ok (by with_unfolding_all rfl) ⟨195, rfl, by with_unfolding_all rfl, ?_⟩)
        o_new
        refine Op.sub ?_
        rw [ed]
        o_new
        refine Op.fn ok ((ih (spot + 1 + k1) _ (by lia) (by lia) (List.mem_cons_of_mem _ mT₂) (List.mem_cons_of_mem _ mC₂)).mono fun v η' zz => ?_) (Nat.le_refl _)
        refine ea2_4 zz fun t2 k2 g2 b2 e1 e2 => ?_; try clear zz
        rw [put_cons DT, put_put] at e2
        subst e1 e2
        o_new
        refine Op.append .head (by simp) ?_
        have mT₃ : (T, tapeL C (spot + 1 + k1 + k2)) ∈ put T (tapeL C (spot + 1 + k1 + k2)) η := put_mem mT
        have mC₃ : (C, AObj.list (iList cells)) ∈ put T (tapeL C (spot + 1 + k1 + k2)) η := put_other mC ne
        refine Exs.cons (Ex.ret (Ev.tuple (Evs.cons (Ev.mono (Φ := fun a η' => ∃ (op : Str) (k3 : Nat), k3 ≤ 1 ∧ a = .str op ∧ PyData.strOk op = true ∧ (decide (0 < op.cps.size) && decide (op.length ≤ 1000)) = true ∧ η' = (D, AObj.list ([t1.av] ++ [t2.av])) :: put T (tapeL C (spot + 1 + k1 + k2 + k3)) η) ?_ fun a η' ⟨op, k3, b3, e1, o1, o2, e2⟩ => ?_))))
        · o_new
          refine Op.eq ok (.here rfl) (.here rfl) .int .int ⟨_, rfl, fun q => ?_, fun q => ?_⟩
          · o_new
            refine Ev.callK ok (Ev.glob (v := .ref 164) ok (by with_unfolding_all rfl) ⟨164, rfl, by with_unfolding_all rfl, ?_⟩)
            o_new
            refine Op.fn ok ((dip_ok (List.mem_cons_of_mem _ mT₃) (List.mem_cons_of_mem _ mC₃) hz (by lia) (by decide)).mono fun v η' zz => ?_) (by lia)
            refine ea0_2 zz fun e1 e2 => ?_; try clear zz
            rw [put_cons DT, put_put] at e2
            subst e1 e2
            obtain ⟨d0, d1⟩ := dipV_range cells (spot + 1 + k1 + k2) (many := 4) (by decide)
            o_new
            refine Op.eq ok (.here rfl) (.here rfl) .int .int ⟨_, rfl, fun q => ?_, fun q => ?_⟩
            · o_new
              refine ⟨fun _ => ?_, nofun⟩
              o_new
              exact ⟨_, 1, Nat.le_refl _, rfl, by decide +kernel, by decide +kernel, rfl⟩
            · refine ⟨nofun, fun _ => ?_⟩
              o_new
              refine Op.lt ⟨_, rfl, fun q => ?_, fun q => ?_⟩
              · o_new
                exact ⟨_, 1, by decide, rfl, by decide +kernel, by decide +kernel, rfl⟩
              · o_new
                exact ⟨_, 1, by decide, rfl, by decide +kernel, by decide +kernel, rfl⟩
          · refine ⟨nofun, fun _ => ?_⟩
            o_new
            refine Op.lt ⟨_, rfl, fun q => ?_, fun q => ?_⟩
            · o_new
              exact ⟨_, 0, by decide, rfl, by decide +kernel, by decide +kernel, rfl⟩
            · o_new
              exact ⟨_, 0, by decide, rfl, by decide +kernel, by decide +kernel, rfl⟩
        · subst e1 e2
          o_new
          refine Op.itemL (l := [t1.av] ++ [t2.av]) (a := t1.av) List.mem_cons_self (by decide) rfl bl ?_ fun _ _ => ⟨_, rfl⟩
          o_new
          refine Op.itemL (l := [t1.av] ++ [t2.av]) (a := t2.av) List.mem_cons_self (by decide) rfl bl ?_ fun _ _ => ⟨_, rfl⟩
          o_new
          refine ⟨bl, .node op [t1, t2], 1 + k1 + k2 + k3, two_ok g1 g2 o1 o2, by lia, by simp only [Tm.av, Tm.avs], ?_⟩
          rw [← Nat.add_assoc, ← Nat.add_assoc, ← Nat.add_assoc]
          exact (Keeps.refl _).cons
end
/-! the plain law of the turning -/
noncomputable abbrev tA : Tm := .node (Str.ofString "?a") []
noncomputable abbrev tB : Tm := .node (Str.ofString "?b") []
noncomputable abbrev tC : Tm := .node (Str.ofString "?c") []
noncomputable abbrev tNil : Tm := .node (Str.ofString "nil") []
noncomputable abbrev tCons (a b : Tm) : Tm := .node (Str.ofString "cons") [a, b]
noncomputable abbrev tApp (a b : Tm) : Tm := .node (Str.ofString "app") [a, b]
noncomputable abbrev tRev (a : Tm) : Tm := .node (Str.ofString "rev") [a]
/-- the eight rules: name, left, right -/
noncomputable def rules8 : List (Str × Tm × Tm) := [
  (Str.ofString "app-nil", tApp tNil tA, tA),
  (Str.ofString "app-cons", tApp (tCons tA tB) tC, tCons tA (tApp tB tC)),
  (Str.ofString "app-end", tApp tA tNil, tA),
  (Str.ofString "app-put", tApp (tApp tA tB) tC, tApp tA (tApp tB tC)),
  (Str.ofString "rev-nil", tRev tNil, tNil),
  (Str.ofString "rev-cons", tRev (tCons tA tB), tApp (tRev tB) (tCons tA tNil)),
  (Str.ofString "rev-app", tRev (tApp tA tB), tApp (tRev tB) (tRev tA)),
  (Str.ofString "rev-rev", tRev (tRev tA), tA)]
noncomputable def first8 : List (Str × Tm × Tm) → Tm → Option Tm
  | [], _ => none
  | r :: rs, t => if (metT r.2.1 t []).1 then Option.some (putT (metT r.2.1 t []).2 r.2.2) else first8 rs t
theorem first_8 : ∀ (rs : List RuleD) (l : List (Str × Tm × Tm)), rs.map (fun r => (r.name, r.left, r.right)) = l → ∀ t, first rs t = first8 l t
  | [], _, h, t => by subst h; rfl
  | r :: rs, _, h, t => by
    subst h
    rw [List.map_cons, first, first8, first_8 rs _ rfl t]
theorem met_var {x : Str} (hx : (x.cps[0]? == Option.some 63) = true) (t : Tm) {tb : Tab} (h : tb.lookup x = none) : metT (.node x []) t tb = (true, tb ++ [(x, t)]) := by
  obtain ⟨op, ks⟩ := t
  rw [metT, show (([] : List Tm).isEmpty && (x.cps[0]? == Option.some 63)) = true from by rw [hx]; rfl, if_pos rfl, h]
theorem met_off {op op' : Str} {ks us : List Tm} {tb : Tab} (h : (op == op' && ks.length == us.length) = false) (hv : (ks.isEmpty && (op.cps[0]? == Option.some 63)) = false) : metT (.node op ks) (.node op' us) tb = (false, tb) := by
  rw [metT, hv, if_neg Bool.false_ne_true, h, if_neg Bool.false_ne_true]
theorem met_on {op : Str} {ks us : List Tm} {tb : Tab} (h : ks.length = us.length) (hv : (ks.isEmpty && (op.cps[0]? == Option.some 63)) = false) : metT (.node op ks) (.node op us) tb = metTs ks us tb := by
  rw [metT, hv, if_neg Bool.false_ne_true, if_pos (by simp [h])]
theorem first_cons (a b : Tm) : first8 rules8 (tCons a b) = none := by
  simp only [rules8, first8]
  repeat rw [met_off (by rfl) (by rfl)]
  rfl
theorem met1 (p t : Tm) (tb : Tab) : metTs [p] [t] tb = metT p t tb := by simp [metTs]
theorem met2 (p q t u : Tm) (tb : Tab) : metTs [p, q] [t, u] tb = ((metT p t tb).1 && (metT q u (metT p t tb).2).1, (metT q u (metT p t tb).2).2) := by simp [metTs]
theorem met_app (p q t u : Tm) (tb : Tab) : metT (tApp p q) (tApp t u) tb = ((metT p t tb).1 && (metT q u (metT p t tb).2).1, (metT q u (metT p t tb).2).2) := by rw [tApp, tApp, met_on (by rfl) (by rfl), met2]
theorem met_cons (p q t u : Tm) (tb : Tab) : metT (tCons p q) (tCons t u) tb = ((metT p t tb).1 && (metT q u (metT p t tb).2).1, (metT q u (metT p t tb).2).2) := by rw [tCons, tCons, met_on (by rfl) (by rfl), met2]
theorem met_rev (p t : Tm) (tb : Tab) : metT (tRev p) (tRev t) tb = metT p t tb := by rw [tRev, tRev, met_on (by rfl) (by rfl), met1]
theorem met_nil (tb : Tab) : metT tNil tNil tb = (true, tb) := by rw [met_on rfl (by rfl)]; simp [metTs]
theorem met_nil_off {op : Str} {us : List Tm} {tb : Tab} (h : (Str.ofString "nil" == op && (0 : Nat) == us.length) = false) : metT tNil (.node op us) tb = (false, tb) := met_off h (by rfl)
theorem first_app_nil (y : Tm) : first8 rules8 (tApp tNil y) = Option.some y := by
  simp only [rules8, first8]
  rw [met_app, met_nil, met_var (by rfl) y (by rfl)]
  rfl
theorem first_app_cons (x l y : Tm) : first8 rules8 (tApp (tCons x l) y) = Option.some (tCons x (tApp l y)) := by
  simp only [rules8, first8]
  rw [met_app, met_nil_off (by rfl), Bool.false_and]
  simp only [Bool.false_eq_true, if_false]
  rw [met_app, met_cons, met_var (by rfl) x (by rfl), met_var (by rfl) l (by rfl), met_var (by rfl) y (by rfl)]
  rfl
theorem first_rev_nil : first8 rules8 (tRev tNil) = Option.some tNil := by
  simp only [rules8, first8]
  rw [met_off (by rfl) (by rfl), met_off (by rfl) (by rfl), met_off (by rfl) (by rfl), met_off (by rfl) (by rfl)]
  simp only [Bool.false_eq_true, if_false]
  rw [met_rev, met_nil]
  rfl
theorem first_rev_cons (x l : Tm) : first8 rules8 (tRev (tCons x l)) = Option.some (tApp (tRev l) (tCons x tNil)) := by
  simp only [rules8, first8]
  rw [met_off (by rfl) (by rfl), met_off (by rfl) (by rfl), met_off (by rfl) (by rfl), met_off (by rfl) (by rfl)]
  simp only [Bool.false_eq_true, if_false]
  rw [met_rev, met_nil_off (by rfl)]
  simp only [Bool.false_eq_true, if_false]
  rw [met_rev, met_cons, met_var (by rfl) x (by rfl), met_var (by rfl) l (by rfl)]
  rfl
theorem turn_stop {rs : List RuleD} {n : Nat} {op : Str} {ks us : List Tm} (h1 : fits (.node op ks) = true) (hk : turns rs n ks = Option.some us) (h2 : fits (.node op us) = true) (h : first rs (.node op us) = none) : turn rs (n + 1) (.node op ks) = Option.some (.node op us) := by
  rw [turn_succ, if_pos h1, hk, Option.bind_some, if_pos h2, h]
theorem turn_go {rs : List RuleD} {n : Nat} {op : Str} {ks us : List Tm} {v w : Tm} (h1 : fits (.node op ks) = true) (hk : turns rs n ks = Option.some us) (h2 : fits (.node op us) = true) (h : first rs (.node op us) = Option.some v) (hv : turn rs n v = Option.some w) : turn rs (n + 1) (.node op ks) = Option.some w := by
  rw [turn_succ, if_pos h1, hk, Option.bind_some, if_pos h2, h]
  exact hv
theorem turns1 {rs : List RuleD} {n : Nat} {k u : Tm} (h : turn rs (n + 1) k = Option.some u) : turns rs (n + 1) [k] = Option.some [u] := by
  show (turn rs (n + 1) k).bind _ = _
  rw [h]; rfl
theorem turns2 {rs : List RuleD} {n : Nat} {k k' u u' : Tm} (h : turn rs (n + 1) k = Option.some u) (h' : turn rs (n + 1) k' = Option.some u') : turns rs (n + 1) [k, k'] = Option.some [u, u'] := by
  show (turn rs (n + 1) k).bind (fun u => (turns rs (n + 1) [k']).map (u :: ·)) = _
  rw [h, turns1 h']; rfl
theorem first_leaf (op : Str) : first8 rules8 (.node op []) = none := by
  simp only [rules8, first8]
  repeat rw [met_off (by simp) (by rfl)]
  rfl
/-- conses of these -/
noncomputable def cT : List Tm → Tm
  | [] => tNil
  | x :: l => tCons x (cT l)
theorem turns0 {rs : List RuleD} (n : Nat) : turns rs n [] = Option.some [] := rfl
/-- names that are no variables, short enough -/
noncomputable def Leaf (x : Tm) : Prop := ∃ op, x = .node op [] ∧ PyData.strOk op = true
theorem fits_leaf {x : Tm} (h : Leaf x) : fits x = true := by
  obtain ⟨op, rfl, h⟩ := h
  simp [fits, Tm.size, Tm.sizes, Tm.h, Tm.hs, Tm.ok, Tm.oks, h]
theorem turn_leaf {rs : List RuleD} (h8 : ∀ t, first rs t = first8 rules8 t) {x : Tm} (hx : Leaf x) (n : Nat) : turn rs (n + 1) x = Option.some x := by
  have hf := fits_leaf hx
  refine ea1_2 hx fun op yq1 h => ?_; try clear hx; subst yq1
  exact turn_stop hf (turns0 n) hf (by rw [h8, first_leaf])
/-- no larger than this -/
inductive Sm (t : Tm) (n m : Nat) : Prop
  | mk (a : t.size ≤ n) (b : t.h ≤ m) (e : t.ok = true)
theorem fits_sm {t : Tm} {n m : Nat} (s : Sm t n m) (hn : n ≤ 400) (hm : m ≤ 40) : fits t = true := by
  obtain ⟨a, b, e⟩ := s
  unfold fits
  rw [e, decide_eq_true (Nat.le_trans a hn), decide_eq_true (Nat.le_trans b hm)]; rfl
theorem Sm.le {t : Tm} {n m n' m' : Nat} (s : Sm t n m) (h : n ≤ n') (k : m ≤ m') : t.h ≤ m' ∧ t.size ≤ n' ∧ t.ok = true := by
  obtain ⟨a, b, e⟩ := s
  exact ⟨Nat.le_trans b k, Nat.le_trans a h, e⟩
theorem Sm.two {a b : Tm} {n m n' : Nat} (op : Str) (h : PyData.strOk op = true) (s : Sm a n m) (s' : Sm b n' m) : Sm (.node op [a, b]) (n + n' + 1) (m + 1) := by
  obtain ⟨a1, a2, a3⟩ := s
  obtain ⟨b1, b2, b3⟩ := s'
  refine ⟨?_, ?_, by simp only [Tm.ok, Tm.oks, h, a3, b3]; rfl⟩
  · simp only [Tm.size, Tm.sizes]; lia
  · simp only [Tm.h, Tm.hs]; lia
theorem Sm.app {a b : Tm} {n m n' : Nat} (s : Sm a n m) (s' : Sm b n' m) : Sm (tApp a b) (n + n' + 1) (m + 1) := .two _ (by decide +kernel) s s'
theorem Sm.cons {a b : Tm} {n m n' : Nat} (s : Sm a n m) (s' : Sm b n' m) : Sm (tCons a b) (n + n' + 1) (m + 1) := .two _ (by decide +kernel) s s'
theorem Sm.rev {a : Tm} {n m : Nat} (s : Sm a n m) : Sm (tRev a) (n + 1) (m + 1) := by
  obtain ⟨a1, a2, a3⟩ := s
  have h : PyData.strOk (Str.ofString "rev") = true := by decide +kernel
  refine ⟨?_, ?_, by simp only [Tm.ok, Tm.oks, h, a3]; rfl⟩
  · simp only [Tm.size, Tm.sizes]; lia
  · simp only [Tm.h, Tm.hs]; lia
theorem Sm.leaf {x : Tm} (h : Leaf x) {m : Nat} : Sm x 1 (m + 1) := by
  obtain ⟨op, rfl, h⟩ := h
  exact ⟨Nat.le_refl _, Nat.le_add_left _ _, by simp only [Tm.ok, Tm.oks, h]; rfl⟩
theorem Sm.cT {l : List Tm} {q : Nat} (hl : ∀ x ∈ l, Leaf x) (hq : l.length ≤ q) : Sm (cT l) (2 * q + 1) (q + 1) := by
  induction l generalizing q with
  | nil => exact ⟨Nat.le_add_left _ _, Nat.le_add_left _ _, by decide +kernel⟩
  | cons x l ih =>
    cases q with
    | zero => exact absurd hq (by simp)
    | succ q =>
      obtain ⟨a, b, e⟩ := (Sm.leaf (hl x List.mem_cons_self)).cons (ih (fun y hy => hl y (List.mem_cons_of_mem _ hy)) (Nat.le_of_succ_le_succ hq))
      exact ⟨Nat.le_trans a (by lia), b, e⟩
theorem fits_cT {l : List Tm} (hl : ∀ x ∈ l, Leaf x) (hz : l.length ≤ 15) : fits (cT l) = true := fits_sm (.cT hl hz) (by decide) (by decide)
theorem turn_cT {rs : List RuleD} (h8 : ∀ t, first rs t = first8 rules8 t) {l : List Tm} (hl : ∀ x ∈ l, Leaf x) (hz : l.length ≤ 15) : ∀ {n : Nat}, l.length + 1 ≤ n → turn rs n (cT l) = Option.some (cT l) := by
  induction l with
  | nil =>
    intro n hn
    cases n with
    | zero => exact absurd hn (by decide)
    | succ m => exact turn_leaf h8 ⟨_, rfl, by decide +kernel⟩ m
  | cons x l ih =>
    intro n hn
    match n, hn with
    | m + 2, hn =>
      have hf := fits_cT hl hz
      exact turn_stop hf (turns2 (turn_leaf h8 (hl x List.mem_cons_self) m) (ih (fun y hy => hl y (List.mem_cons_of_mem _ hy)) (Nat.le_of_succ_le hz) (Nat.le_of_succ_le_succ hn))) hf (by rw [h8]; exact first_cons x (cT l))
/-- what becomes of «app» of two lists at its first step -/
noncomputable def AppTo (rs : List RuleD) (l k : List Tm) : Prop := ∃ v, first rs (tApp (cT l) (cT k)) = Option.some v ∧ ∀ n, 2 * l.length + k.length + 2 ≤ n → turn rs n v = Option.some (cT (l ++ k))
theorem mem_two {l k : List Tm} (hl : ∀ x ∈ l, Leaf x) (hk : ∀ x ∈ k, Leaf x) : ∀ x ∈ l ++ k, Leaf x := fun y hy => (List.mem_append.mp hy).elim (hl y) (hk y)
theorem fits_app {l k : List Tm} (hl : ∀ x ∈ l, Leaf x) (hk : ∀ x ∈ k, Leaf x) (hz : l.length ≤ 8) (hy : k.length ≤ 8) : fits (tApp (cT l) (cT k)) = true := fits_sm ((Sm.cT hl hz).app (.cT hk hy)) (by decide) (by decide)
theorem turn_app_of {rs : List RuleD} (h8 : ∀ t, first rs t = first8 rules8 t) {l k : List Tm} (hl : ∀ x ∈ l, Leaf x) (hk : ∀ x ∈ k, Leaf x) (hz : l.length ≤ 8) (hy : k.length ≤ 8) (h : AppTo rs l k) {n : Nat} (hn : 2 * l.length + k.length + 3 ≤ n) : turn rs n (tApp (cT l) (cT k)) = Option.some (cT (l ++ k)) := by
  obtain ⟨v, v1, v2⟩ := h
  match n, hn with
  | m + 2, hn =>
    have hf := fits_app hl hk hz hy
    exact turn_go hf (turns2 (turn_cT h8 hl (by lia) (by lia)) (turn_cT h8 hk (by lia) (by lia))) hf v1 (v2 _ (Nat.le_of_succ_le_succ hn))
theorem app_first {rs : List RuleD} (h8 : ∀ t, first rs t = first8 rules8 t) {l k : List Tm} (hl : ∀ x ∈ l, Leaf x) (hk : ∀ x ∈ k, Leaf x) (hz : l.length ≤ 8) (hy : k.length ≤ 7) : AppTo rs l k := by
  induction l with
  | nil => exact ⟨cT k, by rw [h8]; exact first_app_nil (cT k), fun n hn => turn_cT h8 hk (by lia) (Nat.le_trans (by simp) hn)⟩
  | cons x l ih =>
    have hl' : ∀ y ∈ l, Leaf y := fun y hy => hl y (List.mem_cons_of_mem _ hy)
    have lx := hl x List.mem_cons_self
    have hz' := Nat.le_of_succ_le hz
    have hy' := Nat.le_succ_of_le hy
    refine ⟨tCons x (tApp (cT l) (cT k)), by rw [h8]; exact first_app_cons x (cT l) (cT k), fun n hn => ?_⟩
    match n, hn with
    | m + 2, hn =>
      have hf2 : fits (cT (x :: l ++ k)) = true := fits_cT (mem_two hl hk) (by rw [List.length_append]; lia)
      exact turn_stop (fits_sm ((Sm.leaf lx).cons ((Sm.cT hl' hz').app (.cT hk hy'))) (by decide) (by decide)) (turns2 (turn_leaf h8 lx m) (turn_app_of h8 hl' hk hz' hy' (ih hl' hz') (by rw [List.length_cons] at hn; lia))) hf2 (by rw [h8]; exact first_cons x (cT (l ++ k)))
theorem turn_app {rs : List RuleD} (h8 : ∀ t, first rs t = first8 rules8 t) {l k : List Tm} (hl : ∀ x ∈ l, Leaf x) (hk : ∀ x ∈ k, Leaf x) (hz : l.length ≤ 8) (hy : k.length ≤ 7) {n : Nat} (hn : 2 * l.length + k.length + 3 ≤ n) : turn rs n (tApp (cT l) (cT k)) = Option.some (cT (l ++ k)) :=
  turn_app_of h8 hl hk hz (Nat.le_succ_of_le hy) (app_first h8 hl hk hz hy) hn
theorem mem_rev {l : List Tm} (hl : ∀ x ∈ l, Leaf x) : ∀ x ∈ l.reverse, Leaf x := fun y hy => hl y (List.mem_reverse.mp hy)
theorem turn_rev {rs : List RuleD} (h8 : ∀ t, first rs t = first8 rules8 t) {l : List Tm} (hl : ∀ x ∈ l, Leaf x) (hz : l.length ≤ 8) : ∀ {n : Nat}, 2 * l.length + 5 ≤ n → turn rs n (tRev (cT l)) = Option.some (cT l.reverse) := by
  induction l with
  | nil =>
    intro n hn
    match n, hn with
    | m + 2, hn =>
      have hf : fits (tRev (cT [])) = true := by decide +kernel
      have tn : ∀ {n}, 1 ≤ n → turn rs n (cT []) = Option.some (cT []) := turn_cT h8 hl (by decide)
      exact turn_go hf (turns1 (tn (Nat.le_add_left _ _))) hf (by rw [h8]; exact first_rev_nil) (tn (Nat.le_add_left _ _))
  | cons x l ih =>
    intro n hn
    match n, hn with
    | m + 3, hn =>
      have hl' : ∀ y ∈ l, Leaf y := fun y hy => hl y (List.mem_cons_of_mem _ hy)
      have h1 : ∀ y ∈ [x], Leaf y := fun y hy => List.mem_singleton.mp hy ▸ hl x List.mem_cons_self
      have hz' := Nat.le_of_succ_le hz
      have hr : l.reverse.length ≤ 8 := by rw [List.length_reverse]; exact hz'
      rw [List.length_cons] at hn
      obtain ⟨v, v1, v2⟩ := app_first h8 (mem_rev hl') h1 hr (by simp)
      have hf : fits (tRev (cT (x :: l))) = true := fits_sm (Sm.cT hl hz).rev (by decide) (by decide)
      have hf1 : fits (tApp (tRev (cT l)) (cT [x])) = true := fits_sm ((Sm.cT hl' hz').rev.app (.cT (q := 9) h1 (by simp))) (by decide) (by decide)
      rw [List.reverse_cons]
      exact turn_go hf (turns1 (turn_cT h8 hl (Nat.le_trans hz (by decide)) (by rw [List.length_cons]; lia))) hf (by rw [h8]; exact first_rev_cons x (cT l)) (turn_go hf1 (turns2 (ih hl' hz' (by lia)) (turn_cT h8 h1 (by simp) (by rw [List.length_singleton]; lia))) (fits_app (mem_rev hl') h1 hr (by simp)) v1 (v2 (m + 1) (by rw [List.length_reverse, List.length_singleton]; lia)))
theorem turn_kids {rs : List RuleD} {n : Nat} {op : Str} {ks us : List Tm} (h1 : fits (.node op ks) = true) (h2 : fits (.node op us) = true) (hk : turns rs n ks = Option.some us) (hu : turns rs n us = Option.some us) : turn rs (n + 1) (.node op ks) = turn rs (n + 1) (.node op us) := by
  rw [turn_succ, turn_succ, if_pos h1, if_pos h2, hk, hu]
/-- «rev (app l k)» -/
theorem turn_rev_app {rs : List RuleD} (h8 : ∀ t, first rs t = first8 rules8 t) {l k : List Tm} (hl : ∀ x ∈ l, Leaf x) (hk : ∀ x ∈ k, Leaf x) (hz : l.length ≤ 4) (hy : k.length ≤ 4) {n : Nat} (hn : 60 ≤ n) : turn rs n (tRev (tApp (cT l) (cT k))) = Option.some (cT (l ++ k).reverse) := by
  match n, hn with
  | m + 2, hn =>
    have hlk := mem_two hl hk
    have hs : (l ++ k).length ≤ 8 := by rw [List.length_append]; lia
    rw [turn_kids (fits_sm ((Sm.cT hl hz).app (.cT hk hy)).rev (by decide) (by decide)) (fits_sm (Sm.cT hlk hs).rev (by decide) (by decide)) (turns1 (turn_app h8 hl hk (by lia) (by lia) (by lia))) (turns1 (turn_cT h8 hlk (by lia) (by lia)))]
    exact turn_rev h8 hlk hs (by lia)
/-- «app (rev l) k» -/
theorem turn_app_rev {rs : List RuleD} (h8 : ∀ t, first rs t = first8 rules8 t) {l k : List Tm} (hl : ∀ x ∈ l, Leaf x) (hk : ∀ x ∈ k, Leaf x) (hz : l.length ≤ 4) (hy : k.length ≤ 4) {n : Nat} (hn : 60 ≤ n) : turn rs n (tApp (tRev (cT l)) (cT k)) = Option.some (cT (l.reverse ++ k)) := by
  match n, hn with
  | m + 2, hn =>
    have hlr := mem_rev hl
    have hr : l.reverse.length ≤ 4 := by rw [List.length_reverse]; exact hz
    have tk := turn_cT h8 hk (Nat.le_trans hy (by decide)) (n := m + 1) (by lia)
    rw [turn_kids (fits_sm ((Sm.cT hl hz).rev.app (.cT (q := 5) hk (Nat.le_succ_of_le hy))) (by decide) (by decide)) (fits_app hlr hk (by lia) (by lia)) (turns2 (turn_rev h8 hl (by lia) (by lia)) tk) (turns2 (turn_cT h8 hlr (by lia) (by lia)) tk)]
    exact turn_app h8 hlr hk (by lia) (by lia) (by lia)
theorem shortT_cT : ∀ l : List Nat, shortT l = cT (l.map fun x => .node (pqr x) [])
  | [] => rfl
  | x :: l => by rw [shortT, List.map_cons, cT, shortT_cT l]
theorem lval_cT {env : Str → AV} : ∀ l : List Tm, (∀ x ∈ l, (lval env x).isNone = false) → lval env (cT l) = .tup (l.map (lval env))
  | [], _ => by rw [cT, tNil, lval, lvals, nodeV, if_pos rfl]; rfl
  | x :: l, h => by
    rw [cT, tCons, lval, lvals, lvals, lvals, lval_cT l fun y hy => h y (List.mem_cons_of_mem _ hy), nodeV, if_pos rfl, consV, h x List.mem_cons_self]; rfl
theorem lval_app {env : Str → AV} (a b : Tm) : lval env (tApp a b) = appV (lval env a) (lval env b) := by
  rw [tApp, lval, lvals, lvals, lvals, nodeV, if_neg (by decide), if_pos rfl]
theorem lval_rev {env : Str → AV} (a : Tm) : lval env (tRev a) = revV (lval env a) := by
  rw [tRev, lval, lvals, lvals, nodeV, if_pos rfl]
theorem lval_leaf {env : Str → AV} {op : Str} (h : op ≠ Str.ofString "nil") : lval env (.node op []) = env op := by rw [lval, lvals, nodeV, if_neg h]
theorem lval_nil {env : Str → AV} : lval env tNil = .tup [] := by rw [tNil, lval, lvals, nodeV, if_pos rfl]
theorem lval_cons {env : Str → AV} (a b : Tm) : lval env (tCons a b) = consV (lval env a) (lval env b) := by
  rw [tCons, lval, lvals, lvals, lvals, nodeV, if_pos rfl]
/-! the call of «HeapError.__init__» -/
/-- all that lies on the heap above the ground, but for the frame's names -/
noncomputable def allNews (h₀ h : Heap) (L : Addr) : List (Addr × Obj) := (List.range h.objs.size).filterMap fun (b : Nat) => if b = L then none else match h₀.get? b with | Option.some _ => none | none => (h.get? b).map fun o => ((b : Addr), o)
theorem allNews_iff {h₀ h : Heap} {L : Addr} {p : Addr × Obj} : p ∈ allNews h₀ h L ↔ h.get? p.1 = Option.some p.2 ∧ p.1 ≠ L ∧ h₀.get? p.1 = none := by
  unfold allNews
  rw [List.mem_filterMap]
  constructor
  · rintro ⟨b, hb, e⟩
    split at e
    · cases e
    · rename_i ne
      split at e
      · cases e
      · rename_i e0
        refine ea1_2 (Option.map_eq_some_iff.mp e) fun o eo yq1 => ?_; subst yq1
        exact ⟨eo, ne, e0⟩
  · rintro ⟨e, ne, e0⟩
    refine ⟨p.1, List.mem_range.mpr (Heap.lt_size e), ?_⟩
    rw [if_neg ne, e0, e]; rfl
theorem allNews_news (h₀ h : Heap) (L : Addr) : News h₀ L h (allNews h₀ h L) := fun p hp => allNews_iff.mp hp
/-- what holds of all of it, holds of the heap -/
theorem allNews_keeps {h₀ h h' : Heap} {L x : Addr} {m : Str → Option Value} {o' : Obj} (F : Fr h₀ L h m) (F' : Fr h₀ L h' m) (N' : News h₀ L h' ((allNews h₀ h L).map fun p => if p.1 = x then (x, o') else p)) : ∀ b o, b ≠ x → b ≠ L → h.get? b = Option.some o → h'.get? b = Option.some o := fun b o nx nL e => by
  cases q : h₀.get? b with
  | some o₀ =>
    have := F.keep b o₀ q
    rw [e] at this; cases this
    exact F'.keep b _ q
  | none =>
    have := N' (b, o) (List.mem_map.mpr ⟨(b, o), allNews_iff.mpr ⟨e, nL, q⟩, by simp [nx]⟩)
    exact this.1
noncomputable abbrev excO (C : Addr) (d : Option Addr) (tup : Addr) : Obj := { cls := .ref C, dict := d, data := .fields #[.ref tup, .none, .none, .none, .bool false, .none], slots := #[] }
/-- what the program is to say of itself where super() is called -/
structure Main (prog : Program) : Prop where
  file : ((prog.main.file : Str) == Str.ofString "/claim/cut.py") = true
  top : (prog.main.scope.names.lookup ("super" : Str)).isSome = false
section
variable {prog : Program} {w : World} {p : Program} {loose : List Str} {mean : ExcName → Option Value} {mg mb : Str → Option Value} {f : Fx} {n : Nat} {s : Shared}
theorem code37 (pg : Main prog) (ok : FOk (cx prog w p loose mean mg mb) f n) {m : Str → Option Value} (F : Fr f.h₀ f.L s.heap m) {x tup : Addr} (hx : s.heap.get? x = Option.some (excO 60 none tup)) (nL : x ≠ f.L) (n0 : f.h₀.get? x = none) {v : Value} {R : Result → Shared → Prop}
    (hq : ∀ h' tk tu dx, Fr f.h₀ f.L h' m → (∀ b o, b ≠ x → b ≠ f.L → s.heap.get? b = Option.some o → h'.get? b = Option.some o) → h'.get? x = Option.some (excO 60 (Option.some dx) tu) → R (.ok (.ret .none)) { s with heap := h', toks := tk }) :
    codeAny (model prog w) f.A (.call (.ref 37) ⟨[.ref x, v], []⟩) R s := by
  refine ks_code_super (K := (cx prog w p loose mean mg mb).K) (binds := [("self", .ref x), ("what", v)]) ok.B F ok.X (allNews_news f.h₀ s.heap f.L) ok.T rfl rfl ok.hk (by with_unfolding_all rfl) (by with_unfolding_all rfl) (by show f.dp < 1000; have := ok.hd; lia) (BindsTo.of_eq rfl)
    (by intro y hy; rcases List.mem_cons.mp hy with rfl | hy; · rfl
        · rw [List.mem_singleton.mp hy]; rfl) ?_ (by decide) rfl rfl rfl
  intro g L' h₁ FG F' N' B' X' T' lt
  have hxm : (x, excO 60 none tup) ∈ allNews f.h₀ s.heap f.L := allNews_iff.mpr ⟨hx, nL, n0⟩
  have hx₁ : h₁.get? x = Option.some (excO 60 none tup) := (N' _ hxm).1
  have I₁ : InstAt h₁ x (excO 60 none tup) 60 none := ⟨hx₁, rfl, rfl, trivial⟩
  refine ks_wpAt_execs_cons (ks_wpAt_Expr_any (ks_wpAt_MethodCall ?_))
  refine ks_node (K := (cx prog w p loose mean mg mb).K) (D := 47) F' X' N' T' (by with_unfolding_all rfl) rfl rfl I₁ (by with_unfolding_all rfl) rfl (by exact pg.file) (by with_unfolding_all rfl) (by with_unfolding_all rfl) (by with_unfolding_all rfl) (by with_unfolding_all rfl) (by decide) rfl rfl rfl rfl pg.top (by first | rfl | kernel_rfl) ?_
  intro so h₂ F₂ N₂ lt₂
  have hx₂ : h₂.get? x = Option.some (excO 60 none tup) := (N₂ _ (List.mem_cons_of_mem _ hxm)).1
  have X₂ : (cx prog w p loose mean mg mb).K.In h₂ := X'.keeps F₂.keep
  obtain ⟨cd, hcd, hmro, hhd⟩ : ∃ cd, clsIn (cx prog w p loose mean mg mb).K 60 = Option.some cd ∧ cd.mro = [.ref 60, .ref 47, .type "Exception", .type "BaseException", .type "object"] ∧ cd.hasDict = true := ⟨_, by with_unfolding_all rfl, rfl, rfl⟩
  have I₂ : InstAt h₂ x (excO 60 none tup) 60 none := ⟨hx₂, rfl, rfl, trivial⟩
  have sub₂ : Looks (model prog w) h₂ (isInstance (.ref x) (.type "Exception")) true := I₂.type.andThen (looks_mroIn X₂ (by with_unfolding_all rfl))
  obtain ⟨oC, hC, hCd⟩ : ∃ oC, (cx prog w p loose mean mg mb).K.lookup 60 = Option.some oC ∧ ∃ nm q N bs bm hdct sn sub ab col dd k0 k1 k2 k3 k5 newId, oC = excClassObj nm q 60 N bs bm hdct sn sub ab col dd k0 k1 k2 k3 k5 newId := ⟨_, by with_unfolding_all rfl, _, _, _, _, _, _, _, _, _, _, _, _, _, _, _, _, _, rfl⟩
  obtain ⟨nm, q, N, bs, bm, hdct, sn, sub, ab, col, dd, k0, k1, k2, k3, k5, newId, rfl⟩ := hCd
  have hxC : x ≠ 60 := fun q => by
    have := X₂ _ _ hC
    rw [← q, hx₂] at this; cases this
  refine sx_getMethod (s := ⟨h₂, _, _, _, _⟩) (C := 60) (D := 47) (K := (cx prog w p loose mean mg mb).K) (N₂ _ List.mem_cons_self).1 (looks_opaque X₂ (by with_unfolding_all rfl)) ((looks_clsIn X₂ hcd).andThen .now) rfl X₂ (by rw [hmro]; with_unfolding_all rfl) sub₂ hxC ?_
  have kp₃ : ∀ b o, h₂.get? b = Option.some o → (h₂.push (wrapO x)).get? b = Option.some o := fun b o e => Heap.get?_push_of_some _ e
  have hu₃ : (h₂.push (wrapO x)).get? h₂.objs.size = Option.some (wrapO x) := Heap.get?_push_size _ rfl
  have F₃ := F₂.keeps kp₃
  refine sx_callWith (x := x) (wpAny_Name (wpAny_loadName_local rfl rfl F₃.ns rfl ⟨hu₃, ?_⟩) (by decide))
  refine sx_call hu₃ (kp₃ _ _ (X₂ _ _ hC)) (kp₃ _ _ hx₂) rfl rfl tup rfl fun tu h₄ e₄ k₄ => ?_
  have X₃ : (cx prog w p loose mean mg mb).K.In (h₂.push (wrapO x)) := X₂.keeps kp₃
  have nxK : ∀ b o, (cx prog w p loose mean mg mb).K.lookup b = Option.some o → b ≠ x := fun b o e q => by
    have := X' _ _ e
    rw [q] at this
    rw [(N' _ hxm).2.2] at this; cases this
  have X₄ : (cx prog w p loose mean mg mb).K.In h₄ := fun b o e => k₄ b o (nxK b o e) (X₃ b o e)
  have xL' : x ≠ L' := Nat.ne_of_lt (lt _ hxm)
  have ns₄ : h₄.Ns L' fun y => ([("self", Value.ref x), ("what", v)] : List (Str × Value)).reverse.lookup y := F₃.ns.at' fun o e => k₄ _ o xL'.symm e
  refine ks_wpAt_execs_cons (_root_.PySem.wpAt_of_wpAny (plainObj_wpAny_Assign_Attribute (wpAny_Name (wpAny_loadName_local rfl rfl ns₄ rfl (wpAny_Name (wpAny_loadName_local rfl rfl ns₄ rfl ?_) (by decide))) (by decide)) (by rfl)))
  refine sx_setAttr (C := 60) (cd := cd) (K := (cx prog w p loose mean mg mb).K) X₄ e₄ rfl rfl rfl hcd hhd (by rw [hmro]; decide) ?_ (by with_unfolding_all rfl) (by with_unfolding_all rfl) fun dx h₅ tk₅ e₅ k₅ => ?_
  · rw [hmro, refuseLoop_ref, refuseLoop_ref]
    exact PySem.F.store_Exception.passes _
  have F₅ : Fr g L' h₅ fun y => ([("self", Value.ref x), ("what", v)] : List (Str × Value)).reverse.lookup y := ⟨ns₄.at' fun o e => k₅ _ o xL'.symm e, fun b o e => k₅ b o (fun q => by rw [q, (N' _ hxm).2.2] at e; cases e) (k₄ b o (fun q => by rw [q, (N' _ hxm).2.2] at e; cases e) (F₃.keep b o e)), F'.above⟩
  have N₅ : News g L' h₅ ((allNews f.h₀ s.heap f.L).map fun p => if p.1 = x then (x, excO 60 (Option.some dx) tu) else p) := fun q hq' => by
    refine ea1_2 (List.mem_map.mp hq') fun r hr yq2 => ?_; subst yq2
    split
    · exact ⟨e₅, xL', (N' _ hxm).2.2⟩
    · rename_i ne
      refine ea0_3 (N₂ r (List.mem_cons_of_mem _ hr)) fun a1 a2 a3 => ?_
      exact ⟨k₅ _ _ ne (k₄ _ _ ne (kp₃ _ _ a1)), a2, a3⟩
  refine _root_.PySem.wpAt_of_wpAny (wpAny_execs_nil (leaveK_ F₅ N₅ fun F₆ N₆ => ?_))
  refine hq h₅ tk₅ tu dx F₆ (allNews_keeps F F₆ N₆) ?_
  have := N₆ (x, excO 60 (Option.some dx) tu) (List.mem_map.mpr ⟨_, hxm, by simp⟩)
  exact this.1
end
section
variable {c : Cx} {f : Fx} {ρ : Locals} {η : Store} {s : Shared} {n : Nat}
/-- a new object, where the frame's names' object may have been touched -/
theorem Rel.allocL (R : Rel c f f.env ρ η s) {m : Str → Option Value} (F : Fr f.h₀ f.L s.heap m) {h' : Heap} {tk : Nat} {a : Addr} {o : Obj} {ao : AObj} (F' : Fr f.h₀ f.L h' m) (k : ∀ b o, b ≠ f.L → s.heap.get? b = Option.some o → h'.get? b = Option.some o)
    (e : s.heap.get? a = none) (e' : h'.get? a = Option.some o) (hc : Conc c h' o ao) : Rel c f f.env ρ ((a, ao) :: η) { s with heap := h', toks := tk } ∧ Stp f f.env η ((a, ao) :: η) s { s with heap := h', toks := tk } := by
  refine ea0_4 (R.fresh e) fun n1 n2 n3 n4 => ?_
  refine ea3_3 (id F.ns) fun oL es ep eL dL r => ?_
  have tk' : Tk s.heap h' := fun b vs t => by
    have ne := IsTup.ne t eL fun _ _ => .inl (by rw [dL]; intro q; cases q)
    refine ea1_2 t fun o' q z => ?_; try clear t
    exact ⟨o', k _ _ ne q, z⟩
  refine ⟨⟨⟨m, F'⟩, ⟨m, F'.ns⟩, fun x av q => ?_, fun b bo hm => ?_, by rw [List.map_cons]; exact List.nodup_cons.mpr ⟨n4, R.nd⟩, fun x cl q => ?_, R.frs⟩, ⟨.heap tk', fun b o q _ nn => k b o (fun z => nn ⟨rfl, .inl z⟩) q, fun b hb => ?_, fun b o w q => ?_⟩⟩
  · refine ea1_2 (R.names x av q) fun v h1 h2 => ?_
    refine ⟨v, ?_, h2.mono tk'⟩
    rcases h1 with ⟨k1, m1, n1, e1⟩ | ⟨k1, cl, ecl, oc, e1, d1⟩
    · exact .inl ⟨k1, m, F'.ns, by rw [← n1.agree F.ns x]; exact e1⟩
    · exact .inr ⟨k1, cl, ecl, oc, k _ _ (fun z => by rw [z, eL] at e1; cases e1; rw [dL] at d1; cases d1) e1, d1⟩
  · rcases List.mem_cons.mp hm with q | hm
    · cases q; exact ⟨o, e', n1, n2, n3, hc⟩
    · obtain ⟨o2, q1, q2, q3, q4, q5⟩ := R.objs b bo hm
      exact ⟨o2, k _ _ (fun z => q2 (.inl z)) q1, q2, q3, q4, q5.mono tk'⟩
  · refine ea2_2 (R.cells x cl q) fun v oc e1 d1 => ?_
    exact ⟨v, oc, k _ _ (fun z => by rw [z, eL] at e1; cases e1; rw [dL] at d1; cases d1) e1, d1⟩
  · rw [List.map_cons, List.mem_cons] at hb
    rcases hb with rfl | hb
    · exact .inr e
    · exact .inl hb
  · by_cases z : b = f.L
    · refine ea3_2 (F'.ns) fun oL' _ _ eL' _ => ?_
      exact ⟨oL', by rw [z]; exact eL'⟩
    · exact ⟨o, k b o z q⟩
end
section
variable {prog : Program} {w : World} {p : Program} {loose : List Str} {mean : ExcName → Option Value} {mg mb : Str → Option Value} {f : Fx} {ρ : Locals} {η : Store} {n : Nat} {Φ : AV → Store → Prop} {Ψ : Exc}
/-- «TermFault(text)» -/
theorem Op.fault (pg : Main prog) {x : Str} (ok : FOk (cx prog w p loose mean mg mb) f n) (hn : 2 ≤ n)
    (h : ∀ e o vs a0, o.cls = .ref 60 → o.data = .fields vs → vs[1]? = Option.some .none → vs[0]? = Option.some a0 → e ∉ η.map (·.1) → Φ (.val (.ref e)) ((e, .raw o) :: η)) : Op (cx prog w p loose mean mg mb) f f.env (callT (.ref 60)) [.str x] ρ η Φ Ψ := fun vs s E r R _ => by
  (apply RvAll.e1 r; intro _ r)
  first | apply Rv.eVal r | (apply Rv.eInt r; intro _) | (apply Rv.eStr r; intro _) | apply Rv.eBool r | cases r
  rename_i tok
  refine ea1_1 (id R.fr) fun m F => ?_
  have X : (cx prog w p loose mean mg mb).K.In s.heap := R.K ok
  obtain ⟨oC, hC, hCd⟩ : ∃ oC, (cx prog w p loose mean mg mb).K.lookup 60 = Option.some oC ∧ ∃ nm q N bs bm hdct sn sub ab col dd k0 k1 k2 k3 k5, oC = excClassObj nm q 60 N bs bm hdct sn sub ab col dd k0 k1 k2 k3 k5 "Exception.__new__" ∧ bm = [.ref 47, .type "Exception", .type "BaseException", .type "object"] := ⟨_, by with_unfolding_all rfl, _, _, _, _, _, _, _, _, _, _, _, _, _, _, _, _, rfl, rfl⟩
  obtain ⟨nm, q, N, bs, bm, hdct, sn, sub, ab, col, dd, k0, k1, k2, k3, k5, rfl, rfl⟩ := hCd
  obtain ⟨hp, g, d, t, os⟩ := s
  have okin : FOk (cx prog w p loose mean mg mb) (f.in_ 1 1 f.gd) (n - 1) := (ok.le (by lia : n - 1 + 1 ≤ n)).in_ (k := 0)
  refine exc_call (K := (cx prog w p loose mean mg mb).K) PySem.F.excBase_Exception (by decide) (by decide) (by decide) X (X _ _ hC) (fI := 37) (by with_unfolding_all rfl) (by with_unfolding_all rfl) ?_ (by show 1 ≤ sizeLine; rw [sizeLine_eq]; decide)
  rw [Fx.under]
  have kp : ∀ b o, hp.get? b = Option.some o → ((hp.push { cls := .type "tuple", data := .seq [Value.str x tok].toArray }).push { cls := .ref 60, data := .fields #[.ref hp.objs.size, .none, .none, .none, .bool false, .none] }).get? b = Option.some o := fun b o e => Heap.get?_push_of_some _ (Heap.get?_push_of_some _ e)
  have F₁ := F.keeps kp
  have e1 : hp.get? (hp.objs.size + 1) = none := Heap.get?_none_of_le (Nat.le_succ _)
  have g1 : ((hp.push { cls := .type "tuple", data := .seq [Value.str x tok].toArray }).push { cls := .ref 60, data := .fields #[.ref hp.objs.size, .none, .none, .none, .bool false, .none] }).get? (hp.objs.size + 1) = Option.some (excO 60 none hp.objs.size) := by
    have := Heap.get?_push_size (hp.push { cls := .type "tuple", data := .seq [Value.str x tok].toArray }) (o := excO 60 none hp.objs.size) rfl
    rwa [Heap.size_push] at this
  refine ea0_4 (R.fresh e1) fun n1 n2 n3 n4 => ?_
  refine code37 pg okin (f := f.in_ 1 1 f.gd) (s := ⟨_, g, d, t, os⟩) (m := m) F₁ g1 n2 n3 fun h' tk tu dx F' k' e' => ⟨rfl, ?_⟩
  obtain ⟨R', t'⟩ := R.allocL (tk := tk) (ao := .raw (excO 60 (Option.some dx) tu)) F F' (fun b o ne e => k' b o (fun z => by rw [z] at e; rw [e1] at e; cases e) ne (kp b o e)) e1 e' ⟨rfl, fun v q => (by cases q), fun vs n => .inl fun q => (by cases q)⟩
  exact ⟨_, _, R', t', .val _, h _ _ _ (.ref tu) rfl rfl rfl rfl n4⟩
end
/-- the variables of a term, as they come -/
noncomputable def Tm.op : Tm → Str
  | .node op _ => op
noncomputable def varsL (t : Tm) : List Str := ((partsL t).filter fun q => q.2.isVar).map fun q => q.2.op
noncomputable def ptVar : AV → Bool
  | .tup [_, a] => (tmOf a).isVar
  | _ => false
noncomputable def ptOp : AV → AV
  | .tup [_, .tup (x :: _)] => x
  | _ => .none
theorem ptAV_vars (l : List (List Int × Tm)) : ((ptAV l).filter ptVar).map ptOp = (((l.filter fun q => q.2.isVar).map fun q => q.2.op)).map .str := by
  induction l with
  | nil => rfl
  | cons q r ih =>
    have e : ptVar (.tup [.tup (q.1.map .int), q.2.av]) = q.2.isVar := by
      show (tmOf q.2.av).isVar = _; rw [tmOf_av]
    have e2 : ptOp (.tup [.tup (q.1.map .int), q.2.av]) = .str q.2.op := by
      obtain ⟨p, ⟨op, ks⟩⟩ := q; rfl
    show ((AV.tup [.tup (q.1.map .int), q.2.av] :: ptAV r).filter ptVar).map ptOp = _
    rw [List.filter_cons, e, List.filter_cons]
    split
    · rw [List.map_cons, List.map_cons, List.map_cons, ih, e2]
    · exact ih
mutual
theorem partsL_ok : ∀ (t : Tm), t.ok = true → t.txt = true → ∀ q ∈ partsL t, q.2.ok = true ∧ q.2.txt = true ∧ q.2.size ≤ t.size
  | .node op ks, h1, h2, q, h => by
    rw [partsL] at h
    rcases List.mem_cons.mp h with rfl | h
    · exact ⟨h1, h2, Nat.le_refl _⟩
    · rw [Tm.ok, Bool.and_eq_true] at h1
      rw [Tm.txt, Bool.and_eq_true] at h2
      have := partsLs_ok ks 0 h1.2 h2.2 q h
      rw [Tm.size]; exact ⟨this.1, this.2.1, by lia⟩
theorem partsLs_ok : ∀ (l : List Tm) (i : Nat), Tm.oks l = true → Tm.txts l = true → ∀ q ∈ partsLs l i, q.2.ok = true ∧ q.2.txt = true ∧ q.2.size ≤ Tm.sizes l
  | [], _, _, _, q, h => by simp [partsLs] at h
  | k :: ks, i, h1, h2, q, h => by
    rw [partsLs] at h
    rw [Tm.oks, Bool.and_eq_true] at h1
    rw [Tm.txts, Bool.and_eq_true] at h2
    rw [Tm.sizes]
    rcases List.mem_append.mp h with h | h
    · refine ea1_2 (List.mem_map.mp h) fun r hr yq1 => ?_; subst yq1
      have := partsL_ok k h1.1 h2.1 r hr
      exact ⟨this.1, this.2.1, by show r.2.size ≤ _; lia⟩
    · have := partsLs_ok ks (i + 1) h1.2 h2.2 q h
      exact ⟨this.1, this.2.1, by lia⟩
end
section
variable {prog : Program} {w : World} {p : Program} {loose : List Str} {mean : ExcName → Option Value} {mg mb : Str → Option Value}
theorem vars_ok (t : Tm) (η : Store) (n : Nat) (hh : t.h ≤ n) (hn : n ≤ 40) (hz : t.size ≤ 60) (hok : t.ok = true) (hso : t.txt = true) :
    FnC (cx prog w p loose mean mg mb) 86 (n + 1) [t.av] η (fun v η' => ∃ (D : Addr) (ys : List Str), v = .val (.ref D) ∧ η' = (D, .list (ys.map .str)) :: η ∧ D ∉ η.map (·.1) ∧ (∀ k, k ∈ ys ↔ k ∈ varsL t) ∧ ys.length ≤ 60) Exc.no := by
  have n1 : 1 ≤ n := by cases t; rw [Tm.h] at hh; lia
  refine .nd fun nd₀ => ?_
  refine .less (.pnd (Φ := fun v η' => ∃ (D : Addr) (ys : List Str), v = .val (.ref D) ∧ (D, .list (ys.map .str)) ∈ η' ∧ (∀ p ∈ η, p ∈ η') ∧ D ∉ η.map (·.1) ∧ (∀ k, k ∈ ys ↔ k ∈ varsL t) ∧ ys.length ≤ 60) (FnC.enter (body := [_]) (by with_unfolding_all rfl) (by with_unfolding_all rfl) ["t"] rfl (fun s _ h => by apply len1.on h; intro _; exact .of_eq rfl) (by decide) (by decide) rfl rfl rfl fun g ok => ?_))
    fun nd v η' zz => ea2_6 zz fun D ys e1 m k nD hy hl => ⟨(D, .list (ys.map .str)) :: η, fun p hp => (List.mem_cons.mp hp).elim (fun q => q ▸ m) (k p), by rw [List.map_cons]; exact List.nodup_cons.mpr ⟨nD, nd⟩, D, ys, e1, rfl, nD, hy, hl⟩
  · have ln : (varsL t).length ≤ 60 := by
      unfold varsL
      rw [List.length_map]
      have := List.length_filter_le (fun q : List Int × Tm => q.2.isVar) (partsL t)
      rw [partsL_len] at this; lia
    o_new
    refine Ev.callB (Ev.bltn (v := .builtin "sorted") ok (by with_unfolding_all rfl) (by kernel_rfl) (by decide) ⟨_, rfl, ?_⟩)
    o_new
    refine Ev.callTy (Ev.bltn (v := .type "set") ok (by with_unfolding_all rfl) (by kernel_rfl) (by decide) ⟨_, rfl, ?_⟩)
    o_new
    refine Ev.comp (ρ' := []) (n := n) ok rfl (by decide) rfl (by decide) (by decide) ?hρ ?_
    case hρ => exact fun C => lk0
    refine Ev.callK ok (Ev.glob (v := .ref 91) ok (by with_unfolding_all rfl) ⟨91, rfl, by with_unfolding_all rfl, ?_⟩)
    o_new
    refine Op.fn ok ((parts_ok n t η hh hn (by lia)).mono fun v η' zz => ?_) (Nat.le_refl _)
    refine ea1_3 zz fun D e1 e2 nD => ?_; try clear zz
    subst e1 e2
    refine ⟨_, _, _, .list (l := ptAV (partsL t)) (a := D), .some List.mem_cons_self, by rw [ptAV, List.length_map, partsL_len]; lia, fun C => ?_⟩
    refine .filter ptVar ptOp (.some List.mem_cons_self) (fun d hd => ?_) ?_
    · refine ea1_2 (List.mem_map.mp hd) fun q hq yq3 => ?_; subst yq3
      refine ea0_3 (partsL_ok t hok hso q hq) fun q1 q2 q3 => ?_
      refine ⟨_, .two rfl rfl (by decide) rfl, ?_, fun _ => ?_⟩
      · o_new
        refine Ev.callK ok (Ev.glob (v := .ref 81) ok (by with_unfolding_all rfl) ⟨81, rfl, by with_unfolding_all rfl, ?_⟩)
        o_new
        refine Op.fn ok ((isvar_ok q.2 _ 0 (by lia) q1 q2).to ?_) (by lia)
        o_new
        exact ⟨by show _ = (tmOf q.2.av).isVar; rw [tmOf_av], rfl⟩
      · o_new
        obtain ⟨path, ⟨op, ks⟩⟩ := q
        rw [Tm.av]
        refine Op.itemT (a := .str op) (by decide) rfl (by rw [List.length_cons, Tm.avs_length]; have := Tm.length_le ks; rw [Tm.size] at q3; lia) ?_ fun _ _ => ⟨_, rfl⟩
        exact ⟨rfl, rfl⟩
    · intro D₁
      rw [List.nil_append, ptAV_vars]
      o_new
      refine Op.setL (xs := varsL t) List.mem_cons_self (by lia) fun D₂ => ?_
      o_new
      have := dd_len (varsL t)
      refine Op.sortedS List.mem_cons_self (by lia) fun D₃ ys hy hl => ?_
      refine fun nd => ⟨D₃, ys, rfl, List.mem_cons_self, (Keeps.refl η).cons.cons.cons.cons, fun q => ?_, hy, by lia⟩
      have := (List.nodup_cons.mp nd).1
      exact this (List.mem_cons_of_mem _ (List.mem_cons_of_mem _ (List.mem_cons_of_mem _ q)))
end
section
variable {c : Cx} {f : Fx} {ρ : Locals} {η : Store} {n : Nat} {s : Shared} {E : Value → Shared → Prop}
theorem Op.tupleT {env : Env} {Φ : AV → Store → Prop} {Ψ : Exc} {l : List AV} (h : Φ (.tup l) η) : Op c f env (callT (.type "tuple")) [.tup l] ρ η Φ Ψ := fun vs s E r R _ => by
  (apply RvAll.e1 r; intro _ r)
  cases r with
  | tup t r => exact call_tuple_tup t (.here R (.tup t r) h)
theorem asg_three {x y z : Str} {px py pz tpos : Pos} {k : Nat} {v : Value} {av d1 d2 d3 : AV} {Q : Unit → Shared → Prop} (ok : FOk c f n) (R : Rel c f f.env ρ η s) (r : Rv s.heap v av) (hx : Knd f x) (hy : Knd f y) (hz : Knd f z) (hu : Upk c f av η [d1, d2, d3])
    (h : ∀ s', Rel c f f.env ((z, d3) :: (y, d2) :: (x, d1) :: ρ) η s' → Stp f f.env η η s s' → Q () s') : wpAny (model c.prog c.w) f.A (assign (.Tuple [.Name x px, .Name y py, .Name z pz] k tpos) f.env v) Q E s := by
  show wpAny _ _ (do standAt tpos; unpack v (assignEach [.Name x px, .Name y py, .Name z pz] f.env)) Q E s
  refine wpAny_bind (wpAny_standAt ?_)
  show wpAny _ _ (do assignInOrder [fun v => assign (.Name x px) f.env v, fun v => assign (.Name y py) f.env v, fun v => assign (.Name z pz) f.env v] (← holding [v] (unpackItems v 3 none))) Q E s
  refine wpAny_bind (wpAny_holding (hu s v _ _ _ _ R r fun vs h' rs kp => ?_))
  have R₂ := R.keeps (n := s.toks) kp
  have rs := rs.mono (Tk.of_keep kp)
  cases rs with
  | cons r1 rs =>
  cases rs with
  | cons r2 rs =>
  cases rs with
  | cons r3 rs =>
  cases rs
  refine assignInOrder_cons (wpAny_assign_Name (sto ok R₂ r1 hx fun s₁ R₁ t₁ => assignInOrder_cons (wpAny_assign_Name (sto ok R₁ (r2.mono t₁.tk) hy fun s₂ R₂ t₂ => assignInOrder_cons (wpAny_assign_Name (sto ok R₂ (r3.mono (t₁.trans t₂).tk) hz fun s₃ R₃ t₃ => assignInOrder_nil (h s₃ R₃ ((Stp.keep kp).trans (t₁.trans (t₂.trans t₃))))))))))
theorem AsgF.three {x y z : Str} {px py pz tpos : Pos} {k : Nat} {d1 d2 d3 : AV} (ok : FOk c f n) (hx : Knd f x) (hy : Knd f y) (hz : Knd f z) : AsgF c f (.Tuple [.Name x px, .Name y py, .Name z pz] k tpos) (.tup [d1, d2, d3]) [(z, d3), (y, d2), (x, d1)] := fun s v ρ η Q E R r h => asg_three ok R r hx hy hz .tup h
end
section
variable {prog : Program} {w : World} {p : Program} {loose : List Str} {mean : ExcName → Option Value} {mg mb : Str → Option Value}
theorem init_ok {x dx : Addr} (ne : x ≠ dx) {nm : Str} {l r : Tm} (η : Store) (n : Nat) (l1 : l.h ≤ n) (r1 : r.h ≤ n) (hn : n ≤ 30) (l2 : l.size ≤ 60) (r2 : r.size ≤ 60) (l3 : l.ok = true) (r3 : r.ok = true) (l4 : l.txt = true) (r4 : r.txt = true)
    (hv : l.isVar = false) (hsub : ∀ k ∈ varsL r, k ∈ varsL l) (hstr : ∀ k ∈ varsL r, PyData.strOk k = true) (hstl : ∀ k ∈ varsL l, PyData.strOk k = true) :
    FnC (cx prog w p loose mean mg mb) 103 (n + 2) [.val (.ref x), .str nm, l.av, r.av, .tup []] ((x, .raw (instObj 113 dx)) :: (dx, .flds []) :: η)
      (fun v η' => v = .none ∧ η' = (x, .raw (instObj 113 dx)) :: (dx, .flds [("name", .str nm), ("left", l.av), ("right", r.av), ("needs", .tup [])]) :: η) Exc.no := by
  refine .nd fun nd₀ => ?_
  refine .less (.pnd (Φ := fun v η' => v = .none ∧ ∀ q ∈ ((x, .raw (instObj 113 dx)) :: (dx, .flds [("name", .str nm), ("left", l.av), ("right", r.av), ("needs", .tup [])]) :: η : Store), q ∈ η') (FnC.enter (body := [_, _, _, _, _, _, _, _]) (by with_unfolding_all rfl) (by with_unfolding_all rfl) ["self", "name", "left", "right", "needs"] rfl (fun s _ h => by apply len5.on h; intro _ _ _ _ _; exact .of_eq rfl) (by decide) (by decide) rfl rfl rfl fun g ok => ?_))
    fun nd v η' zz => ⟨_, zz.2, by simpa using nd₀, zz.1, rfl⟩
  o_new
  refine Ev.callK ok (Ev.glob (v := .ref 81) ok (by with_unfolding_all rfl) ⟨81, rfl, by with_unfolding_all rfl, ?_⟩)
  o_new
  refine Op.fn ok ((isvar_ok l _ 0 (by lia) l3 l4).to ?_) (by lia)
  rw [hv]
  o_new
  refine ⟨nofun, fun _ => ?_⟩
  o_new
  refine Ex.assign ok (.inr rfl) ?_
  refine Ev.callK ok (Ev.glob (v := .ref 86) ok (by with_unfolding_all rfl) ⟨86, rfl, by with_unfolding_all rfl, ?_⟩)
  o_new
  refine Op.fn ok ((vars_ok l _ n l1 (by lia) l2 l3 l4).mono fun v η1 zz => ?_) (by lia)
  refine ea2_5 zz fun Dk ys e1 e2 nk hk zk => ?_; try clear zz
  subst e1 e2
  o_new
  refine Ex.assign ok (.inl rfl) ?_
  o_new
  refine ⟨bl, ?_⟩
  o_new
  refine ⟨bl, fun Da => ?_⟩
  refine Ev.callTy (Ev.bltn (v := .type "list") ok (by with_unfolding_all rfl) (by kernel_rfl) (by decide) ⟨_, rfl, ?_⟩)
  o_new
  refine Op.listT bl fun Db => ?_
  refine Op.addL (List.mem_cons_of_mem _ List.mem_cons_self) List.mem_cons_self bl fun Dc => ?_
  rw [List.append_nil]
  o_new
  refine Ex.for ?_
  o_new
  refine ⟨_, _, _, .list (l := [.tup [.str "alike", r.av, r.av]]) (a := Dc), .some List.mem_cons_self, ?_⟩
  refine ⟨_, .three ok (.inl rfl) (.inl rfl) (.inl rfl), ?_⟩
  o_new
  refine ⟨bl, ?_⟩
  refine Op.notInT ok (.here rfl) rfl ⟨by decide +kernel, by decide +kernel⟩ (.str (by decide +kernel)) ⟨_, rfl, fun q => ?_, fun _ => ?_⟩
  · exact absurd q (by decide +kernel)
  o_new
  refine Ex.assignComp (ρ' := [("known", .val (.ref Dk))]) (n := n + 1) ok rfl (by with_unfolding_all rfl) rfl (by decide) rfl (by decide) (by decide) ?hρ ?_
  case hρ => exact fun C => lk1 ⟨rfl, rfl, rfl, rfl⟩ lk0
  o_new
  refine Ev.callK ok (Ev.glob (v := .ref 86) ok (by with_unfolding_all rfl) ⟨86, rfl, by with_unfolding_all rfl, ?_⟩)
  o_new
  refine Op.fn ok ((vars_ok r _ n r1 (by lia) r2 r3 r4).mono fun v η1 zz => ?_) (by lia)
  refine ea2_5 zz fun D1 y1 e1 e2 n1 h1 z1 => ?_; try clear zz
  subst e1 e2
  o_new
  refine Ev.callK ok (Ev.glob (v := .ref 86) ok (by with_unfolding_all rfl) ⟨86, rfl, by with_unfolding_all rfl, ?_⟩)
  o_new
  refine Op.fn ok ((vars_ok r _ n r1 (by lia) r2 r3 r4).mono fun v η1 zz => ?_) (by lia)
  refine ea2_5 zz fun D2 y2 e1 e2 n2 h2 z2 => ?_; try clear zz
  subst e1 e2
  refine Op.addL (List.mem_cons_of_mem _ List.mem_cons_self) List.mem_cons_self (by rw [List.length_map, List.length_map]; lia) fun D3 => ?_
  refine ⟨_, _, _, .list (l := y1.map AV.str ++ y2.map AV.str) (a := D3), .some List.mem_cons_self, by rw [List.length_append, List.length_map, List.length_map]; lia, fun C => ?_⟩
  refine .filter (fun _ => false) id (.some List.mem_cons_self) (fun d hd => ?_) ?_
  · obtain ⟨k, hk1, rfl⟩ : ∃ k, k ∈ varsL r ∧ d = .str k := by
      rcases List.mem_append.mp hd with hd | hd
      · refine ea1_2 (List.mem_map.mp hd) fun k h yq2 => ?_; subst yq2; exact ⟨k, (h1 k).mp h, rfl⟩
      · refine ea1_2 (List.mem_map.mp hd) fun k h yq3 => ?_; subst yq3; exact ⟨k, (h2 k).mp h, rfl⟩
    have nbk : AV.nbs (ys.map AV.str) = true := AV.nbs_iff.mpr fun a ha => by
      refine ea1_2 (List.mem_map.mp ha) fun k' h yq4 => ?_; subst yq4
      exact hstl k' ((hk k').mp h)
    have dpk : AV.deps (ys.map AV.str) ≤ 50 := AV.deps_le.mpr fun a ha => by
      refine ea1_2 (List.mem_map.mp ha) fun k' h yq5 => ?_; subst yq5
      exact Nat.zero_le _
    refine ⟨_, .name rfl rfl, ?_, nofun⟩
    o_new
    refine Op.notInL (d := .str k) ok (.here rfl) (D := Dk) (l := ys.map AV.str) (by repeat (first | exact List.mem_cons_self | refine List.mem_cons_of_mem _ ?_)) (AV.nbs_pures nbk) (AV.shs nbk dpk) (.str (hstr k hk1)) ⟨_, rfl, ?_, rfl⟩
    have := (any_eqv (a := .str k) (hstr k hk1) nbk).mpr (List.mem_map_of_mem (f := AV.str) ((hk k).mpr (hsub k hk1)))
    rw [show (AV.str k).pd = PyData.str k from rfl] at this
    rw [this]; rfl
  · intro D4
    rw [List.filter_eq_nil_iff.mpr (fun _ _ => Bool.false_ne_true), List.map_nil, List.append_nil]
    o_new
    refine ⟨bl, fun D5 => ?_⟩
    refine Op.ne ok (.list (D := D4) (l := []) (List.mem_cons_of_mem _ List.mem_cons_self) rfl) (.list (D := D5) (l := []) List.mem_cons_self rfl) ⟨by decide +kernel, by decide +kernel⟩ ⟨by decide +kernel, by decide +kernel⟩ ⟨_, rfl, fun q => ?_, fun _ => ?_⟩
    · exact absurd q (by decide +kernel)
    o_new
    refine ⟨.some (by repeat (first | exact List.mem_cons_self | refine List.mem_cons_of_mem _ ?_)), ?_⟩
    rw [ForS]
    refine Exs.less (ρ₀ := [("self", .val (.ref x)), ("name", .str nm), ("left", l.av), ("right", r.av), ("needs", .tup [])]) (η₀ := (x, .raw (instObj 113 dx)) :: (dx, .flds []) :: η) (lk1 rfl (lk1 rfl (lk1 rfl (lk1 rfl (lk1 rfl lk0))))) (fun _ => ⟨fun q hq => by repeat (first | exact hq | refine List.mem_cons_of_mem _ ?_), nd₀⟩) ?_
    refine .cons (.setAttr (a := x) (dx := dx) (C := 113) (l := []) ok ?_ (by with_unfolding_all rfl) (by with_unfolding_all rfl) (by with_unfolding_all rfl) (by with_unfolding_all rfl))
    o_new
    refine ⟨rfl, List.mem_cons_self, rfl, by decide, _, .tail .head, ?_⟩
    refine .cons (.setAttr (a := x) (dx := dx) (C := 113) (l := [("name", .str nm)]) ok ?_ (by with_unfolding_all rfl) (by with_unfolding_all rfl) (by with_unfolding_all rfl) (by with_unfolding_all rfl))
    o_new
    refine ⟨rfl, List.mem_cons_self, by kernel_rfl, Nat.le_of_ble_eq_true rfl, _, .tail .head, ?_⟩
    refine .cons (.setAttr (a := x) (dx := dx) (C := 113) (l := [("name", .str nm), ("left", l.av)]) ok ?_ (by with_unfolding_all rfl) (by with_unfolding_all rfl) (by with_unfolding_all rfl) (by with_unfolding_all rfl))
    o_new
    refine ⟨rfl, List.mem_cons_self, by kernel_rfl, Nat.le_of_ble_eq_true rfl, _, .tail .head, ?_⟩
    refine .cons (.setAttr (a := x) (dx := dx) (C := 113) (l := [("name", .str nm), ("left", l.av), ("right", r.av)]) ok ?_ (by with_unfolding_all rfl) (by with_unfolding_all rfl) (by with_unfolding_all rfl) (by with_unfolding_all rfl))
    refine Ev.callTy (Ev.bltn (v := .type "tuple") ok (by with_unfolding_all rfl) (by kernel_rfl) (by decide) ⟨_, rfl, ?_⟩)
    o_new
    refine Op.tupleT ?_
    refine ⟨rfl, List.mem_cons_self, by kernel_rfl, Nat.le_of_ble_eq_true rfl, _, .tail .head, ?_⟩
    o_new
    exact fun _ => ⟨rfl, fun q hq => hq⟩
end
section
variable {c : Cx} {f : Fx} {env : Env} {ρ : Locals} {η : Store} {n : Nat} {Φ : AV → Store → Prop} {Ψ : Exc}
/-- a name of the module that means a tuple of one text -/
theorem Ev.globT {x : Str} {pos : Pos} {a : Addr} {y : Str} {t : Tok} {m : Nat} {d : Option Addr} {sl : Array (Option Value)} (ok : FOk c f n) (e : nsIn c.K mainGlobals x = some (some (.ref a))) (hk : c.K.lookup a = some ⟨.type "tuple", d, .seq #[.str y t] m, sl⟩) (h : Φ (.tup [.str y]) η)
    (hx : env.kindOf x = some .globalImplicit := by rfl) (hk : env.scope.kind = .function := by rfl) (hg : env.globals = mainGlobals := by rfl)
    (hd : (x == ("__debug__" : Str)) = false := by decide) : Ev c f env (.Name x pos) ρ η Φ Ψ := fun s E R hE => by
  refine wpAny_mono (Ev.glob (Φ := fun a' η' => a' = .val (.ref a) ∧ η' = η) (Ψ := Ψ) ok e ⟨rfl, rfl⟩ hx hk hg hd s E R hE) (fun v s' h' => ?_) fun _ _ q => q
  obtain ⟨av, η', R', t', r', rfl, rfl⟩ := h'
  first | apply Rv.eVal r' | (apply Rv.eInt r'; intro _) | (apply Rv.eStr r'; intro _) | apply Rv.eBool r' | cases r'
  exact ⟨_, _, R', t', .tup (vs := [.str y t]) ⟨_, R'.K ok _ _ (by assumption), rfl, _, rfl⟩ (.cons (.str _ _) .nil), h⟩
end
/-- what a rule's sides must be that it be made -/
noncomputable def mkB (l r : Tm) : Bool :=
  decide (l.h ≤ 6) && decide (r.h ≤ 6) && decide (l.size ≤ 50) && decide (r.size ≤ 50) && l.ok && r.ok && l.txt && r.txt && !l.isVar &&
  (varsL r).all (fun k => (varsL l).contains k) && (varsL r).all PyData.strOk && (varsL l).all PyData.strOk
section
variable {prog : Program} {w : World} {p : Program} {loose : List Str} {mean : ExcName → Option Value} {mg mb : Str → Option Value} {f : Fx} {env : Env} {ρ : Locals} {η : Store} {n : Nat} {Φ : AV → Store → Prop}
theorem Op.rule {nm : Str} {al ar : AV} (l r : Tm) (ok : FOk (cx prog w p loose mean mg mb) f n) (hn : 9 ≤ n) (hl : l.av = al) (hr : r.av = ar) (hm : mkB l r = true)
    (h : ∀ x dx, Φ (.val (.ref x)) ((x, .raw (instObj 113 dx)) :: (dx, .flds [("name", .str nm), ("left", l.av), ("right", r.av), ("needs", .tup [])]) :: η)) : Op (cx prog w p loose mean mg mb) f env (callT (.ref 113)) [.str nm, al, ar, .tup []] ρ η Φ Exc.no := by
  subst hl hr
  unfold mkB at hm
  simp only [Bool.and_eq_true, decide_eq_true_eq, Bool.not_eq_true', List.all_eq_true] at hm
  refine ea0_2 hm fun zq1 h12 => ?_; try clear hm; refine ea0_2 zq1 fun zq2 h11 => ?_; refine ea0_2 zq2 fun zq3 h10 => ?_; refine ea0_2 zq3 fun zq4 h9 => ?_; refine ea0_2 zq4 fun zq5 h8 => ?_; refine ea0_2 zq5 fun zq6 h7 => ?_; refine ea0_2 zq6 fun zq7 h6 => ?_; refine ea0_2 zq7 fun zq8 h5 => ?_; refine ea0_2 zq8 fun zq9 h4 => ?_; refine ea0_2 zq9 fun zq10 h3 => ?_; refine ea0_2 zq10 fun h1 h2 => ?_; clear zq10; clear zq9; clear zq8; clear zq7; clear zq6; clear zq5; clear zq4; clear zq3; clear zq2; clear zq1
  refine Op.make (fI := 103) (k := 8) ok (by with_unfolding_all rfl) (by with_unfolding_all rfl) (by with_unfolding_all rfl) hn fun x dx ne => ?_
  exact (init_ok ne η 6 h1 h2 (by decide) (by lia) (by lia) h5 h6 h7 h8 h9 (fun k hk => by simpa using h10 k hk) h11 h12).mono fun v η' ⟨e1, e2⟩ => ⟨e1, by rw [e2]; exact h x dx⟩
theorem rules_ok (self : AV) (η : Store) : FnC (cx prog w p loose mean mg mb) 145 20 [self] η (fun v η' => ∃ Ds rs, v = .val (.ref Ds) ∧ RulesIn η' Ds rs ∧ Keeps η η' ∧ rs.map (fun r => (r.name, r.left, r.right)) = rules8) Exc.no := by
  refine FnC.enter (body := [_, _]) (by with_unfolding_all rfl) (by with_unfolding_all rfl) ["self"] rfl (fun s _ h => by apply len1.on h; intro _; exact .of_eq rfl) (by decide) (by decide) rfl rfl rfl fun g ok => ?_
  refine .cons (.assign ok (.inl rfl) ?_)
  o_new
  refine ⟨bl, ?_⟩
  refine Exs.cons (Ex.ret (Ev.list (Evs.cons ?_)))
  refine Ev.callK ok (Ev.glob (v := .ref 113) ok (by with_unfolding_all rfl) ⟨113, rfl, by with_unfolding_all rfl, ?_⟩)
  (o_new; repeat (first | (refine Ev.globT (a := 118) (y := "?a") ok (by with_unfolding_all rfl) (by with_unfolding_all rfl) ?_; o_new) | (refine Ev.globT (a := 119) (y := "?b") ok (by with_unfolding_all rfl) (by with_unfolding_all rfl) ?_; o_new) | (refine Ev.globT (a := 120) (y := "?c") ok (by with_unfolding_all rfl) (by with_unfolding_all rfl) ?_; o_new) | (refine ⟨bl, ?_⟩; o_new)))
  refine Op.rule (tApp tNil tA) tA ok (by decide) (by simp only [Tm.av, Tm.avs]) (by simp only [Tm.av, Tm.avs]) (by decide +kernel) fun x0 d0 => ?_
  refine Evs.cons ?_
  refine Ev.callK ok (Ev.glob (v := .ref 113) ok (by with_unfolding_all rfl) ⟨113, rfl, by with_unfolding_all rfl, ?_⟩)
  (o_new; repeat (first | (refine Ev.globT (a := 118) (y := "?a") ok (by with_unfolding_all rfl) (by with_unfolding_all rfl) ?_; o_new) | (refine Ev.globT (a := 119) (y := "?b") ok (by with_unfolding_all rfl) (by with_unfolding_all rfl) ?_; o_new) | (refine Ev.globT (a := 120) (y := "?c") ok (by with_unfolding_all rfl) (by with_unfolding_all rfl) ?_; o_new) | (refine ⟨bl, ?_⟩; o_new)))
  refine Op.rule (tApp (tCons tA tB) tC) (tCons tA (tApp tB tC)) ok (by decide) (by simp only [Tm.av, Tm.avs]) (by simp only [Tm.av, Tm.avs]) (by decide +kernel) fun x1 d1 => ?_
  refine Evs.cons ?_
  refine Ev.callK ok (Ev.glob (v := .ref 113) ok (by with_unfolding_all rfl) ⟨113, rfl, by with_unfolding_all rfl, ?_⟩)
  (o_new; repeat (first | (refine Ev.globT (a := 118) (y := "?a") ok (by with_unfolding_all rfl) (by with_unfolding_all rfl) ?_; o_new) | (refine Ev.globT (a := 119) (y := "?b") ok (by with_unfolding_all rfl) (by with_unfolding_all rfl) ?_; o_new) | (refine Ev.globT (a := 120) (y := "?c") ok (by with_unfolding_all rfl) (by with_unfolding_all rfl) ?_; o_new) | (refine ⟨bl, ?_⟩; o_new)))
  refine Op.rule (tApp tA tNil) tA ok (by decide) (by simp only [Tm.av, Tm.avs]) (by simp only [Tm.av, Tm.avs]) (by decide +kernel) fun x2 d2 => ?_
  refine Evs.cons ?_
  refine Ev.callK ok (Ev.glob (v := .ref 113) ok (by with_unfolding_all rfl) ⟨113, rfl, by with_unfolding_all rfl, ?_⟩)
  (o_new; repeat (first | (refine Ev.globT (a := 118) (y := "?a") ok (by with_unfolding_all rfl) (by with_unfolding_all rfl) ?_; o_new) | (refine Ev.globT (a := 119) (y := "?b") ok (by with_unfolding_all rfl) (by with_unfolding_all rfl) ?_; o_new) | (refine Ev.globT (a := 120) (y := "?c") ok (by with_unfolding_all rfl) (by with_unfolding_all rfl) ?_; o_new) | (refine ⟨bl, ?_⟩; o_new)))
  refine Op.rule (tApp (tApp tA tB) tC) (tApp tA (tApp tB tC)) ok (by decide) (by simp only [Tm.av, Tm.avs]) (by simp only [Tm.av, Tm.avs]) (by decide +kernel) fun x3 d3 => ?_
  refine Evs.cons ?_
  refine Ev.callK ok (Ev.glob (v := .ref 113) ok (by with_unfolding_all rfl) ⟨113, rfl, by with_unfolding_all rfl, ?_⟩)
  (o_new; repeat (first | (refine Ev.globT (a := 118) (y := "?a") ok (by with_unfolding_all rfl) (by with_unfolding_all rfl) ?_; o_new) | (refine Ev.globT (a := 119) (y := "?b") ok (by with_unfolding_all rfl) (by with_unfolding_all rfl) ?_; o_new) | (refine Ev.globT (a := 120) (y := "?c") ok (by with_unfolding_all rfl) (by with_unfolding_all rfl) ?_; o_new) | (refine ⟨bl, ?_⟩; o_new)))
  refine Op.rule (tRev tNil) tNil ok (by decide) (by simp only [Tm.av, Tm.avs]) (by simp only [Tm.av, Tm.avs]) (by decide +kernel) fun x4 d4 => ?_
  refine Evs.cons ?_
  refine Ev.callK ok (Ev.glob (v := .ref 113) ok (by with_unfolding_all rfl) ⟨113, rfl, by with_unfolding_all rfl, ?_⟩)
  (o_new; repeat (first | (refine Ev.globT (a := 118) (y := "?a") ok (by with_unfolding_all rfl) (by with_unfolding_all rfl) ?_; o_new) | (refine Ev.globT (a := 119) (y := "?b") ok (by with_unfolding_all rfl) (by with_unfolding_all rfl) ?_; o_new) | (refine Ev.globT (a := 120) (y := "?c") ok (by with_unfolding_all rfl) (by with_unfolding_all rfl) ?_; o_new) | (refine ⟨bl, ?_⟩; o_new)))
  refine Op.rule (tRev (tCons tA tB)) (tApp (tRev tB) (tCons tA tNil)) ok (by decide) (by simp only [Tm.av, Tm.avs]) (by simp only [Tm.av, Tm.avs]) (by decide +kernel) fun x5 d5 => ?_
  refine Evs.cons ?_
  refine Ev.callK ok (Ev.glob (v := .ref 113) ok (by with_unfolding_all rfl) ⟨113, rfl, by with_unfolding_all rfl, ?_⟩)
  (o_new; repeat (first | (refine Ev.globT (a := 118) (y := "?a") ok (by with_unfolding_all rfl) (by with_unfolding_all rfl) ?_; o_new) | (refine Ev.globT (a := 119) (y := "?b") ok (by with_unfolding_all rfl) (by with_unfolding_all rfl) ?_; o_new) | (refine Ev.globT (a := 120) (y := "?c") ok (by with_unfolding_all rfl) (by with_unfolding_all rfl) ?_; o_new) | (refine ⟨bl, ?_⟩; o_new)))
  refine Op.rule (tRev (tApp tA tB)) (tApp (tRev tB) (tRev tA)) ok (by decide) (by simp only [Tm.av, Tm.avs]) (by simp only [Tm.av, Tm.avs]) (by decide +kernel) fun x6 d6 => ?_
  refine Evs.cons ?_
  refine Ev.callK ok (Ev.glob (v := .ref 113) ok (by with_unfolding_all rfl) ⟨113, rfl, by with_unfolding_all rfl, ?_⟩)
  (o_new; repeat (first | (refine Ev.globT (a := 118) (y := "?a") ok (by with_unfolding_all rfl) (by with_unfolding_all rfl) ?_; o_new) | (refine Ev.globT (a := 119) (y := "?b") ok (by with_unfolding_all rfl) (by with_unfolding_all rfl) ?_; o_new) | (refine Ev.globT (a := 120) (y := "?c") ok (by with_unfolding_all rfl) (by with_unfolding_all rfl) ?_; o_new) | (refine ⟨bl, ?_⟩; o_new)))
  refine Op.rule (tRev (tRev tA)) tA ok (by decide) (by simp only [Tm.av, Tm.avs]) (by simp only [Tm.av, Tm.avs]) (by decide +kernel) fun x7 d7 => ?_
  o_new
  refine ⟨bl, fun D => ?_⟩
  refine ⟨D, [⟨x0, d0, Str.ofString "app-nil", (tApp tNil tA), tA⟩, ⟨x1, d1, Str.ofString "app-cons", (tApp (tCons tA tB) tC), (tCons tA (tApp tB tC))⟩, ⟨x2, d2, Str.ofString "app-end", (tApp tA tNil), tA⟩, ⟨x3, d3, Str.ofString "app-put", (tApp (tApp tA tB) tC), (tApp tA (tApp tB tC))⟩, ⟨x4, d4, Str.ofString "rev-nil", (tRev tNil), tNil⟩, ⟨x5, d5, Str.ofString "rev-cons", (tRev (tCons tA tB)), (tApp (tRev tB) (tCons tA tNil))⟩, ⟨x6, d6, Str.ofString "rev-app", (tRev (tApp tA tB)), (tApp (tRev tB) (tRev tA))⟩, ⟨x7, d7, Str.ofString "rev-rev", (tRev (tRev tA)), tA⟩], rfl, ⟨List.mem_cons_self, ?_, ?_⟩, ?_, rfl⟩
  · simp only [List.forall_mem_cons]
    refine ⟨(by repeat (first | exact List.mem_cons_self | refine List.mem_cons_of_mem _ ?_)), (by repeat (first | exact List.mem_cons_self | refine List.mem_cons_of_mem _ ?_)), (by repeat (first | exact List.mem_cons_self | refine List.mem_cons_of_mem _ ?_)), (by repeat (first | exact List.mem_cons_self | refine List.mem_cons_of_mem _ ?_)), (by repeat (first | exact List.mem_cons_self | refine List.mem_cons_of_mem _ ?_)), (by repeat (first | exact List.mem_cons_self | refine List.mem_cons_of_mem _ ?_)), (by repeat (first | exact List.mem_cons_self | refine List.mem_cons_of_mem _ ?_)), (by repeat (first | exact List.mem_cons_self | refine List.mem_cons_of_mem _ ?_)), nofun⟩
  · simp only [List.forall_mem_cons]
    refine ⟨(by repeat (first | exact List.mem_cons_self | refine List.mem_cons_of_mem _ ?_)), (by repeat (first | exact List.mem_cons_self | refine List.mem_cons_of_mem _ ?_)), (by repeat (first | exact List.mem_cons_self | refine List.mem_cons_of_mem _ ?_)), (by repeat (first | exact List.mem_cons_self | refine List.mem_cons_of_mem _ ?_)), (by repeat (first | exact List.mem_cons_self | refine List.mem_cons_of_mem _ ?_)), (by repeat (first | exact List.mem_cons_self | refine List.mem_cons_of_mem _ ?_)), (by repeat (first | exact List.mem_cons_self | refine List.mem_cons_of_mem _ ?_)), (by repeat (first | exact List.mem_cons_self | refine List.mem_cons_of_mem _ ?_)), nofun⟩
  · exact fun q hq => by repeat (first | exact hq | refine List.mem_cons_of_mem _ ?_)
end
theorem intLen : ∀ k : Nat, k ≤ 600 → (Str.ofString (toString ((k : Nat) : Int))).length ≤ 100 := by decide +kernel
section
variable {c : Cx} {η : Store} {n : Nat}
theorem FnC.imp {a : Addr} {args : List AV} {Φ : AV → Store → Prop} {X : Value} {P Q : Store → Prop} (h : FnC c a n args η Φ ⟨X, P⟩) (k : ∀ η, P η → Q η) : FnC c a n args η Φ ⟨X, Q⟩ := fun f env ρ vs s E ok R r hE => h f env ρ vs s E ok R r fun x η' s' hx hp => hE x η' s' hx (k η' hp)
end
theorem Keeps.less {η₀ η : Store} (h : Keeps η₀ η) (nd : (η.map (·.1)).Nodup) (nd₀ : (η₀.map (·.1)).Nodup) : (∀ p ∈ η₀, p ∈ η) ∧ (η₀.map (·.1)).Nodup := ⟨h, nd₀⟩
section
variable {prog : Program} {w : World} {p : Program} {loose : List Str} {mean : ExcName → Option Value} {mg mb : Str → Option Value}
theorem named_ok (pg : Main prog) {D : Addr} {kvs : List (Str × AV)} (lo : (D == sysModules) = false) (op : Str) (ks : List Tm) (η : Store) (hz : (Tm.node op ks).size ≤ 500) (hop : op.length ≤ 1000) (mD : (D, .dict kvs) ∈ η) :
    FnC (cx prog w p loose mean mg mb) 131 3 [(Tm.node op ks).av, .val (.ref D)] η (fun v η' => (ks = [] ∧ kvs.lookup op = Option.some v) ∧ η' = η) ⟨.ref 60, fun η' => (ks ≠ [] ∨ kvs.lookup op = none) ∧ η' = η⟩ := by
  refine .nd fun nd₀ => ?_
  refine .same (FnC.enter (body := [_, _]) (n := 2) (by with_unfolding_all rfl) (by with_unfolding_all rfl) ["term", "env"] rfl (fun s _ h => by apply len2.on h; intro _ _; exact .of_eq rfl) (by decide) (by decide) rfl rfl rfl fun g ok => ?_)
  rw [Tm.av]
  have ol : (AV.str op :: Tm.avs ks).length ≤ 1000000 := by
    rw [List.length_cons, Tm.avs_length]; have := Tm.length_le ks; rw [Tm.size] at hz; lia
  have hk : ks.length ≤ 500 := by have := Tm.length_le ks; rw [Tm.size] at hz; lia
  refine Exs.cons (Ex.if (Tt.mono (Φb := fun b η' => b = (!ks.isEmpty || (kvs.lookup op).isNone) ∧ η' = η) ?_ fun b η' ⟨e1, e2⟩ => ?_))
  · o_new
    refine Ev.callB (Ev.bltn (v := .builtin "len") ok (by with_unfolding_all rfl) (by kernel_rfl) (by decide) ⟨_, rfl, ?_⟩)
    o_new
    refine Op.lenT ol ?_
    o_new
    refine Op.gt ⟨_, rfl, fun q => ?_, fun q => ?_⟩
    · have q := of_decide_eq_false q
      rw [List.length_cons, Tm.avs_length] at q
      have hk0 : ks = [] := List.eq_nil_of_length_eq_zero (by lia)
      subst hk0
      o_new
      refine Op.itemT (a := .str op) (by decide) rfl ol ?_ fun _ _ => ⟨_, rfl⟩
      o_new
      refine Op.dictNotIn mD lo ⟨_, rfl, fun q => ?_, fun q => ?_⟩
      · o_new
        refine ⟨?_, rfl⟩
        cases h : kvs.lookup op with
        | none => rw [h] at q; cases q
        | some v => rfl
      · refine ⟨?_, rfl⟩
        cases h : kvs.lookup op with
        | none => rfl
        | some v => rw [h] at q; cases q
    · have q := of_decide_eq_true q
      rw [List.length_cons, Tm.avs_length] at q
      have hk0 : ks.isEmpty = false := by
        cases ks with
        | nil => simp at q
        | cons a r => rfl
      exact ⟨by rw [hk0]; rfl, rfl⟩
  subst e1 e2
  refine ⟨fun q => ?_, fun q => ?_⟩
  · have hq : ks ≠ [] ∨ kvs.lookup op = none := by
      simp only [Bool.or_eq_true, Bool.not_eq_true', Option.isNone_iff_eq_none] at q
      rcases q with q | q
      · exact .inl fun z => by rw [z] at q; cases q
      · exact .inr q
    have l1 : (Str.ofString " with ").length = 6 := by decide +kernel
    have l0 : Str.empty.length = 0 := rfl
    refine Exs.cons (Ex.raise ok ?_)
    refine Ev.callK ok (Ev.glob (v := .ref 60) ok (by with_unfolding_all rfl) ⟨60, rfl, by with_unfolding_all rfl, ?_⟩)
    refine Evs.cons ?_
    refine Ev.join (Jn.cons ?_)
    refine Ev.fmtStr ?_
    o_new
    refine Op.itemT (a := .str op) (by decide) rfl ol ?_ fun _ _ => ⟨_, rfl⟩
    refine ⟨op, rfl, by lia, ?_⟩
    refine ⟨op, rfl, by simp only [Str.length_append]; lia, Jn.cons ?_⟩
    o_new
    refine ⟨_, rfl, ?_, Jn.cons ?_⟩
    · simp only [Str.length_append]; lia
    refine Ev.fmtInt ?_
    o_new
    refine Ev.callB (Ev.bltn (v := .builtin "len") ok (by with_unfolding_all rfl) (by kernel_rfl) (by decide) ⟨_, rfl, ?_⟩)
    o_new
    refine Op.lenT ol ?_
    o_new
    refine Op.sub ?_
    rw [List.length_cons, Tm.avs_length, show (((ks.length + 1 : Nat) : Int) - 1) = ((ks.length : Nat) : Int) by lia]
    have hl := intLen ks.length (by lia)
    have l3 : (Str.ofString " kids has no value").length = 18 := by decide +kernel
    refine ⟨_, rfl, by lia, ?_⟩
    refine ⟨_, rfl, ?_, Jn.cons ?_⟩
    · simp only [Str.length_append]; lia
    o_new
    refine ⟨_, rfl, ?_, Jn.nil ?_ ?_⟩
    · simp only [Str.length_append]; lia
    · simp only [Str.length_append]; lia
    o_new
    refine Op.fault pg ok (by decide) fun e o vs a0 h1 h2 h3 h4 h5 => ?_
    refine ⟨e, o, 60, vs, a0, η', rfl, List.mem_cons_self, h1, h2, h3, h4, by with_unfolding_all rfl, by with_unfolding_all rfl, rfl, ⟨hq, rfl⟩, fun q hq' => ⟨List.mem_cons_of_mem _ hq', fun z => h5 (z ▸ List.mem_map_of_mem (f := (·.1)) hq')⟩, fun nd => (List.nodup_cons.mp nd).2⟩
  · o_new
    simp only [Bool.or_eq_false_iff, Bool.not_eq_false'] at q
    refine ea0_2 q fun q1 q2 => ?_; try clear q
    have hk0 : ks = [] := List.isEmpty_iff.mp q1
    cases hl : kvs.lookup op with
    | none => rw [hl] at q2; cases q2
    | some v =>
      refine Op.itemT (a := .str op) (by decide) rfl ol ?_ fun _ _ => ⟨_, rfl⟩
      refine Op.dictSub mD hl ⟨⟨hk0, rfl⟩, fun p h => h⟩ fun _ _ => ⟨_, rfl⟩
end
section
variable {c : Cx} {f : Fx} {env : Env} {ρ : Locals} {η : Store} {n : Nat} {Φ : AV → Store → Prop} {Φn : Locals → Store → Prop} {Φr : AV → Store → Prop} {Ψ : Exc} {s : Shared}
/-- «try» where nothing is raised -/
theorem Ex.tryNo {body : List Stmt} {h₀ : ExceptHandler} {hs : List ExceptHandler} {pos : Pos} (h : Exs c f env body ρ η Φn Φr Exc.no) : Ex c f env (.Try body (h₀ :: hs) [] [] pos) ρ η Φn Φr Ψ := fun s E R hE => by
  refine wpAny_Try_except (wpAny_mono (h s _ R Esc.no) (fun fl s₁ h₁ => ?_) fun _ _ x => x)
  rcases h₁ with ⟨rfl, ρ', η', R', t, k⟩ | ⟨v, rfl, av, ρ', η', R', t, r, k⟩
  · exact wpAny_execs_nil (.inl ⟨rfl, ρ', η', R', t, k⟩)
  · exact .inr ⟨v, rfl, av, ρ', η', R', t, r, k⟩
theorem FnC.noRaise {a : Addr} {args : List AV} {X : Value} {P : Store → Prop} (h : FnC c a n args η Φ ⟨X, P⟩) (k : ∀ η, ¬ P η) : FnC c a n args η Φ Ψ := fun f env ρ vs s E ok R r hE => h f env ρ vs s E ok R r fun x η' s' hx hp => (k η' hp).elim
/-- the exception is caught in a function that the top frame calls, and nothing is left of it -/
theorem catch_top {qual : Str} {scope : Scope} {L' a : Addr} {cdv : Value} {g h₁ : Heap} {tk : Nat} {η' : Store} {ρ' : Locals} {x : Value} {s' : Shared} {C : Addr} {tn : Str} {np hpos rpos cpos : Pos} {ck : Nat} {Q : Flow → Shared → Prop} {E' : Value → Shared → Prop}
    (htop : f.outer = []) (ok : FOk c f (n + 1)) (R : Rel c f f.env ρ η s) (ok' : FOk c (f.down qual scope L' a cdv g) n) (R' : Rel c (f.down qual scope L' a cdv g) (f.down qual scope L' a cdv g).env ρ' η { s with heap := h₁, toks := tk })
    (st : f.h₀.StaysIn g) (hk₁ : ∀ b o, s.heap.get? b = Option.some o → h₁.get? b = Option.some o) (own : ∀ b, f.Own b → ∃ o, g.get? b = Option.some o) (new : ∀ b o, s.heap.get? b = Option.some o → ¬ (f.down qual scope L' a cdv g).Own b)
    (hX : XRel c (f.down qual scope L' a cdv g) (.ref C) η { s with heap := h₁, toks := tk } η' x s')
    (hC : nsIn c.K mainGlobals tn = Option.some (Option.some (.ref C))) (hCo : ∃ nm q N bs bm hdct sn sub ab col dd k0 k1 k2 k3 k5 newId, c.K.lookup C = Option.some (excClassObj nm q C N bs bm hdct sn sub ab col dd k0 k1 k2 k3 k5 newId) ∧ bm.contains (.type "BaseException") = true)
    (hkf : scope.kind = .function) (hx : (f.down qual scope L' a cdv g).env.kindOf tn = Option.some .globalImplicit) (hd : (tn == ("__debug__" : Str)) = false)
    (h : ∀ s₂, Rel c f f.env ρ η' s₂ → Stp f f.env η η' s s₂ → Q (.ret .none) s₂) :
    wpAny (model c.prog c.w) (f.down qual scope L' a cdv g).A (noteFrame x (f.down qual scope L' a cdv g).env)
      (fun _ s₂ => wpAny (model c.prog c.w) (f.down qual scope L' a cdv g).A (setFlight x none) (fun _ s₃ => wpAny (model c.prog c.w) (f.down qual scope L' a cdv g).A (handleBy x (f.down qual scope L' a cdv g).env [.ExceptHandler (Option.some (.Name tn np)) none [.Return (Option.some (.Constant .none ck cpos)) rpos] hpos]) Q E' s₃) E' s₂) E' s' := by
  obtain ⟨e, rfl, _⟩ := id hX
  refine wpAny_mono (XRel.note (M := model c.prog c.w) ok' R' hX) (fun _ s₂ h₂ => ?_) fun _ _ q => q
  refine ea2_5 h₂ fun B a0 k k1 k2 k3 k4 => ?_; try clear h₂
  refine ea1_1 (id R.fr) fun m F => ?_
  refine ea3_4 (id F.ns) fun oL es ep eL dL hLk hLf => ?_
  have frs : (f.down qual scope L' a cdv g).Frs = [f.L] := by show (f.env :: f.outer).filterMap (·.frame) = _; rw [htop]; rfl
  -- what stays of the caller's heap
  have stay : ∀ b o, s.heap.get? b = Option.some o → b ∉ η.map (·.1) → b ≠ f.L → B.get? b = Option.some o := fun b o e n1 n2 => k.kp b o (hk₁ b o e) n1 (new b o e) (by rw [frs]; simpa using n2)
  have nE : ∀ b o, f.h₀.get? b = Option.some o → b ∉ η.map (·.1) := fun b o e hm => by
    obtain ⟨⟨b', bo⟩, hm', rfl⟩ := List.mem_map.mp hm
    obtain ⟨_, _, _, _, n0, _⟩ := R.objs _ _ hm'
    rw [n0] at e; cases e
  have stay₀ : ∀ b o, f.h₀.get? b = Option.some o → B.get? b = Option.some o := fun b o e => stay b o (F.keep b o e) (nE b o e) fun q => by rw [q, R.L_none] at e; cases e
  refine wpAny_landsW (base := B) (l := (f.down qual scope L' a cdv g).env :: (f.down qual scope L' a cdv g).outer) ⟨k1, k2, k3, k4⟩ fun h₃ hfl hsm => ?_
  obtain ⟨nm, q', N, bs, bm, hdct, sn, sub, ab, col, dd, k0, k1', k2', k3', k5, newId, hCk, hbase⟩ := hCo
  have keep₃ : ∀ b o, f.h₀.get? b = Option.some o → h₃.get? b = Option.some o := fun b o e => hfl.1 b o (stay₀ b o e)
  have T := topRead_of ok.T
  refine ea1_2 (hfl.2.2.2.at.there) fun ob hob hobc => ?_
  refine wpAny_handleBy_cons (codeAny_handlers_test (Name_function_global hkf hx (loadGlobal_global (env := (f.down qual scope L' a cdv g).env) (T.g.keeps keep₃) (mg_of ok.X T.g hC) ?_) hd)) (by intro q; cases q)
  refine wpAny_excMatches_sub_self (keep₃ _ _ (ok.X _ _ hCk)) hob hobc hbase (codeAny_handlers_suite ?_)
  refine lands_againW hfl fun h₄ hfl₄ hsm₄ => ?_
  refine wpAny_execs_cons (wpAny_Return_some (wpAny_Constant_none ?_))
  show Q (.ret .none) { s₂ with heap := h₄ }
  have T4 : s₂.heap.UpToSlots h₄ := hsm.trans hsm₄
  have keep₄ : ∀ b o, s.heap.get? b = Option.some o → b ∉ η.map (·.1) → b ≠ f.L → h₄.get? b = Option.some o := fun b o e n1 n2 => hfl₄.1 b o (stay b o e n1 n2)
  have nOwn : ∀ b, f.Own b → b ∉ η.map (·.1) := fun b w hm => by
    obtain ⟨⟨b', bo⟩, hm', rfl⟩ := List.mem_map.mp hm
    obtain ⟨_, _, n1, _⟩ := R.objs _ _ hm'
    exact n1 w
  obtain ⟨sl, e₂⟩ := k.ups f.L oL (by rw [frs]; exact List.mem_singleton.mpr rfl) (hk₁ _ _ eL)
  obtain ⟨sl', e₄⟩ := T4 f.L _ e₂ (by intro vs q; rw [show ({ oL with slots := sl } : Obj).data = oL.data from rfl, dL] at q; cases q)
  have ns₄ : h₄.Ns f.L m := ⟨_, es, ep, e₄, dL, hLk, hLf⟩
  have tk₄ : Tk s.heap h₄ := (Tk.of_keep hk₁).trans (k.stp.tk.trans (.slots T4))
  have F₄ : Fr f.h₀ f.L h₄ m := ⟨ns₄, fun b o e => hfl₄.1 b o (stay₀ b o e), F.above⟩
  have cellNe : ∀ cl v, s.heap.IsCell cl v → cl ≠ f.L := fun cl v ⟨oc, e1, d1⟩ z => by rw [z, eL] at e1; cases e1; rw [dL] at d1; cases d1
  have cell₄ : ∀ x cl v, f.env.cells.lookup x = Option.some cl → s.heap.IsCell cl v → h₄.IsCell cl v := fun x cl v ecl i => by
    have ne := cellNe cl v i
    refine ea1_2 i fun oc e1 d1 => ?_; try clear i
    exact ⟨oc, keep₄ _ _ e1 (nOwn cl (.inr ⟨x, ecl⟩)) ne, d1⟩
  refine h _ ⟨⟨m, F₄⟩, ⟨m, ns₄⟩, fun x av q => ?_, fun a ao hm => ?_, k.nd, fun x cl q => ?_, R.frs⟩ ⟨⟨tk₄, ?_⟩, fun b o q n1 n2 => keep₄ b o q n1 fun z => n2 ⟨rfl, .inl z⟩, fun b hb => ?_, fun b o wn q => ?_⟩
  · refine ea1_2 (R.names x av q) fun v h1 h2 => ?_
    refine ⟨v, ?_, h2.mono tk₄⟩
    rcases h1 with ⟨k1, m1, n1, e1⟩ | ⟨k1, cl, ecl, i⟩
    · exact .inl ⟨k1, m, ns₄, by rw [← n1.agree F.ns x]; exact e1⟩
    · exact .inr ⟨k1, cl, ecl, cell₄ x cl _ ecl i⟩
  · refine ea1_4 (k.objs a ao hm) fun o e1 n1 n2 hc => ?_
    have nO : ¬ f.Own a := fun w => by
      refine ea1_1 (own a w) fun o' e' => ?_
      rw [show g.get? a = none from n2] at e'; cases e'
    refine ⟨o, hfl₄.1 _ _ e1, nO, fun q => nO (.inl q), ?_, hc.mono (.slots T4)⟩
    cases q : f.h₀.get? a with
    | none => rfl
    | some o' => have := st a o' q; rw [show g.get? a = none from n2] at this; cases this
  · refine ea1_1 (R.cells x cl q) fun v i => ?_
    exact ⟨v, cell₄ x cl v q i⟩
  · obtain ⟨_, h', n', d', q⟩ := k.stp
    rw [q]
    exact ⟨_, _, _, rfl⟩
  · rcases k.dom b hb with z | z
    · exact .inl z
    · refine .inr ?_
      cases e : s.heap.get? b with
      | none => rfl
      | some o => rw [show h₁.get? b = Option.some o from hk₁ b o e] at z; cases z
  · by_cases z : b = f.L
    · exact ⟨_, by rw [z]; exact e₄⟩
    · exact ⟨o, keep₄ b o q (nOwn b wn) z⟩
end
/-- the menu of the ops with their lengths -/
theorem menu3_eqv (op : Str) (n : Nat) : ((AV.pds [.tup [.str (Str.ofString "cons"), .int 3], .tup [.str (Str.ofString "app"), .int 3], .tup [.str (Str.ofString "rev"), .int 2]]).any fun y => PyData.eqv y (AV.tup [.str op, .int ((n + 1 : Nat) : Int)]).pd) =
    ((Str.ofString "cons" == op && (2 : Int) == (n : Int)) || ((Str.ofString "app" == op && (2 : Int) == (n : Int)) || (Str.ofString "rev" == op && (1 : Int) == (n : Int)))) := by
  simp only [AV.pds, List.any_cons, List.any_nil, opn_eqv, Bool.or_false]
  have e3 : ((3 : Int) == ((n + 1 : Nat) : Int)) = ((2 : Int) == (n : Int)) := by
    rw [Bool.eq_iff_iff, beq_iff_eq, beq_iff_eq]; lia
  have e2 : ((2 : Int) == ((n + 1 : Nat) : Int)) = ((1 : Int) == (n : Int)) := by
    rw [Bool.eq_iff_iff, beq_iff_eq, beq_iff_eq]; lia
  rw [e3, e2]
theorem filter_any (l : List AV) (g : AV → Bool) : (!(l.filter g).isEmpty) = l.any g := by
  induction l with
  | nil => rfl
  | cons a r ih => rw [List.filter_cons, List.any_cons]; cases h : g a <;> simp_all
theorem nodeV_none {env : Str → AV} {op : Str} {vs : List AV} (h : (op = Str.ofString "cons" ∧ ∃ x y, vs = [x, y]) ∨ (op = Str.ofString "app" ∧ ∃ x y, vs = [x, y]) ∨ (op = Str.ofString "rev" ∧ ∃ x, vs = [x])) (hm : AV.none ∈ vs) : nodeV env op vs = .none := by
  rcases h with ⟨rfl, x, y, rfl⟩ | ⟨rfl, x, y, rfl⟩ | ⟨rfl, x, rfl⟩
  · rw [nodeV, if_pos rfl]
    simp only [List.mem_cons, List.not_mem_nil, or_false] at hm
    rcases hm with h | h
    · subst h; cases y <;> rfl
    · subst h; rfl
  · rw [nodeV, if_neg (by decide), if_pos rfl]
    simp only [List.mem_cons, List.not_mem_nil, or_false] at hm
    rcases hm with h | h
    · subst h; rfl
    · subst h; cases x <;> rfl
  · rw [nodeV, if_pos rfl]
    simp only [List.mem_cons, List.not_mem_nil, or_false] at hm
    subst hm; rfl
theorem nodeV_bad {env : Str → AV} {op : Str} {vs : List AV} (h : (op = Str.ofString "cons" ∧ ∃ x y, vs = [x, y]) ∨ (op = Str.ofString "app" ∧ ∃ x y, vs = [x, y]) ∨ (op = Str.ofString "rev" ∧ ∃ x, vs = [x])) (hb : ((if op = Str.ofString "cons" then vs.drop 1 else vs).any fun a => !a.isTup) = true) : nodeV env op vs = .none := by
  rcases h with ⟨rfl, x, y, rfl⟩ | ⟨rfl, x, y, rfl⟩ | ⟨rfl, x, rfl⟩
  · rw [if_pos rfl] at hb
    simp only [List.drop_succ_cons, List.drop_zero, List.any_cons, List.any_nil, Bool.or_false] at hb
    rw [nodeV, if_pos rfl]
    cases y <;> first | rfl | cases hb
  · rw [if_neg (by decide)] at hb
    simp only [List.any_cons, List.any_nil, Bool.or_false, Bool.or_eq_true] at hb
    rw [nodeV, if_neg (by decide), if_pos rfl]
    rcases hb with hb | hb
    · cases x <;> first | rfl | cases hb
    · cases y <;> first | (cases hb; done) | (cases x <;> rfl)
  · rw [if_neg (by decide)] at hb
    simp only [List.any_cons, List.any_nil, Bool.or_false] at hb
    rw [nodeV, if_pos rfl]
    cases x <;> first | rfl | cases hb
section
variable {prog : Program} {w : World} {p : Program} {loose : List Str} {mean : ExcName → Option Value} {mg mb : Str → Option Value}
theorem value_ok (pg : Main prog) {D th dth : Addr} {kvs : List (Str × AV)} (lo : (D == sysModules) = false) (he : EnvV (envOf2 kvs) 5 1000) (hkn : ∀ x v, kvs.lookup x = Option.some v → v.isNone = false) :
    ∀ (n : Nat) (t : Tm) (η : Store), t.h ≤ n → n ≤ 40 → t.size ≤ 500 → t.ok = true → t.txt = true → (D, .dict kvs) ∈ η → (th, .raw (instObj 153 dth)) ∈ η → (dth, .flds []) ∈ η →
    FnC (cx prog w p loose mean mg mb) 150 (n + 3) [.val (.ref th), t.av, .val (.ref D)] η (fun v η' => (v = lval (envOf2 kvs) t ∧ v.isNone = false) ∧ η' = η) ⟨.ref 60, fun η' => lval (envOf2 kvs) t = .none ∧ η' = η⟩ := by
  intro n
  induction n with
  | zero => intro t η h; cases t; simp [Tm.h] at h
  | succ n ih =>
    intro t η h hn hz hok hso mD mT mF
    obtain ⟨op, ks⟩ := t
    refine .nd fun nd₀ => ?_
    refine .same (FnC.enter (body := [_, _, _, _, _, _]) (n := n + 3) (by with_unfolding_all rfl) (by with_unfolding_all rfl) ["self", "term", "env"] rfl (fun s _ h => by apply len3.on h; intro _ _ _; exact .of_eq rfl) (by decide) (by decide) rfl rfl rfl fun g ok => ?_)
    have tnb : (Tm.node op ks).av.nb = true := Tm.av_nb _ hok
    have tdp : (Tm.node op ks).av.dep ≤ 50 := by rw [Tm.av_dep]; lia
    have hz' := hz
    rw [Tm.size] at hz'
    have ol : (AV.str op :: Tm.avs ks).length ≤ 1000000 := by
      rw [List.length_cons, Tm.avs_length]; have := Tm.length_le ks; lia
    have hkz : ks.length ≤ 500 := by have := Tm.length_le ks; lia
    have hh : Tm.hs ks ≤ n := by rw [Tm.h] at h; lia
    have opk : PyData.strOk op = true := by rw [Tm.ok, Bool.and_eq_true] at hok; exact hok.1
    have okk : ∀ k ∈ ks, k.ok = true := by
      rw [Tm.ok, Bool.and_eq_true] at hok; exact Tm.oks_iff.mp hok.2
    have otx : op.length ≤ 1000 := by
      rw [Tm.txt, Bool.and_eq_true, Bool.and_eq_true] at hso; exact of_decide_eq_true hso.1.2
    have txk : ∀ k ∈ ks, k.txt = true := by
      rw [Tm.txt, Bool.and_eq_true] at hso; exact Tm.txts_iff.mp hso.2
    have hv := lvals_ok he ks
    have hvl : (lvals (envOf2 kvs) ks).length = ks.length := by rw [lvals_map, List.length_map]
    rw [Tm.av] at tnb tdp ⊢
    o_new
    refine ⟨bl, ?_⟩
    refine Op.eq ok (.here (AV.nb_pure tnb)) (.here rfl) (AV.sh tnb tdp) ⟨by decide +kernel, by decide +kernel⟩ ⟨_, rfl, fun q => ?_, fun q => ?_⟩
    · have q := (AV.nb_eqv tnb (by decide +kernel)).mp q
      rw [AV.tup.injEq, List.cons.injEq, AV.str.injEq] at q
      refine ea0_2 q fun q1 q2 => ?_; try clear q
      have hk : ks = [] := by
        cases ks with
        | nil => rfl
        | cons a r => rw [Tm.avs] at q2; cases q2
      subst hk
      o_new
      refine ⟨bl, ⟨?_, rfl⟩, fun _ h => h⟩
      rw [lval, lvals, nodeV, if_pos q1]
    · have nq : ¬ (op = Str.ofString "nil" ∧ ks = []) := fun ⟨q1, q2⟩ => by
        subst q1 q2
        have := (AV.nb_eqv tnb (b := .tup [.str (Str.ofString "nil")]) (by decide +kernel)).mpr rfl
        rw [this] at q; cases q
      clear q
      o_new
      refine Op.itemT (a := .str op) (by decide) rfl ol ?_ fun _ _ => ⟨_, rfl⟩
      o_new
      refine Ev.callB (Ev.bltn (v := .builtin "len") ok (by with_unfolding_all rfl) (by kernel_rfl) (by decide) ⟨_, rfl, ?_⟩)
      o_new
      refine Op.lenT ol ?_
      o_new
      iterate 5 (refine ⟨bl, ?_⟩; o_new)
      rw [List.length_cons, Tm.avs_length]
      refine Op.notInT ok (.here rfl) rfl ⟨by decide +kernel, by decide +kernel⟩ (.tup (by simp [AV.pds, AV.pd, PyData.canLayAll0, PyData.canLay0, opk]) (by simp [AV.pds, AV.pd, PyData.depthAll, PyData.depth])) ⟨_, rfl, fun b => ?_, fun b => ?_⟩
      · rw [menu3_eqv, Bool.not_eq_true'] at b
        o_new
        refine Ev.callK ok (Ev.glob (v := .ref 131) ok (by with_unfolding_all rfl) ⟨131, rfl, by with_unfolding_all rfl, ?_⟩)
        o_new
        have := (named_ok (prog := prog) (w := w) (p := p) (loose := loose) (mean := mean) (mg := mg) (mb := mb) pg lo op ks η hz otx mD).imp (Q := fun η' => lval (envOf2 kvs) (.node op ks) = .none ∧ η' = η) fun η' ⟨hp, e⟩ => ⟨?_, e⟩
        · rw [Tm.av] at this
          refine Op.fn ok (this.mono fun v η' zz => ?_) (by lia)
          refine ea0_2 zz fun zq2 e3 => ?_; try clear zz; refine ea0_2 zq2 fun e1 e2 => ?_; clear zq2
          subst e1 e3
          have : op ≠ Str.ofString "nil" := fun q => nq ⟨q, rfl⟩
          refine ⟨⟨?_, hkn op v e2⟩, fun _ h => h⟩
          rw [lval, lvals, nodeV, if_neg this, envOf2, e2]; rfl
        · rcases hp with hp | hp
          · rw [lval, nodeV_off (fun q => hp (by cases ks with | nil => rfl | cons a r => cases q)) (by rw [hvl]; exact b)]
          · cases ks with
            | nil =>
              have : op ≠ Str.ofString "nil" := fun q => nq ⟨q, rfl⟩
              rw [lval, lvals, nodeV, if_neg this, envOf2, hp]; rfl
            | cons a r => rw [lval, nodeV_off (by simp [lvals]) (by rw [hvl]; exact b)]
      · rw [menu3_eqv, Bool.not_eq_false'] at b
        rw [← hvl] at b
        o_new
        refine Ex.assignComp (ρ' := [("self", .val (.ref th)), ("env", .val (.ref D))]) (n := n + 3) ok rfl (by with_unfolding_all rfl) rfl (by decide) rfl (by decide) (by decide) ?hρ ?_
        case hρ => exact fun C => lk1 ⟨rfl, rfl, rfl, rfl⟩ (lk1 ⟨rfl, rfl, rfl, rfl⟩ lk0)
        o_new
        refine Ev.sliceFrom fun D' tk => ?_
        refine Op.sliceTFrom (l := .str op :: Tm.avs ks) (a := 1) (by decide) (by simp) ol ⟨_, _, η, .tup, .none, ?_, fun C => ?_⟩ fun _ _ => ⟨_, rfl⟩
        · rw [List.drop_one, List.tail_cons]; rw [List.length_cons] at ol; lia
        have hsub : ∀ k ∈ ks, lval (envOf2 kvs) k = .none → lval (envOf2 kvs) (.node op ks) = .none := fun k hk hkv => by
          have hm : AV.none ∈ lvals (envOf2 kvs) ks := by rw [lvals_map]; exact List.mem_map.mpr ⟨k, hk, hkv⟩
          rw [lval]
          exact nodeV_none (menu_cases b) hm
        refine .inv (fun i acc η' => acc = (ks.take i).map (lval (envOf2 kvs)) ∧ η' = η ∧ ∀ k ∈ ks.take i, (lval (envOf2 kvs) k).isNone = false) _ (fun _ _ _ _ => .none) (fun i d acc η' hd ⟨i1, i2, i3⟩ => ?_) (fun acc η' ⟨i1, i2, i3⟩ => ?_) ⟨by simp, rfl, by simp⟩
        · subst i1 i2
          rw [List.drop_one, List.tail_cons, Tm.avs_map, List.getElem?_map] at hd
          refine ea1_2 (Option.map_eq_some_iff.mp hd) fun k hk yq3 => ?_; subst yq3
          have hkm : k ∈ ks := List.mem_of_getElem? hk
          have hks := Tm.size_mem hkm
          refine ⟨_, .name rfl rfl, ?_⟩
          refine Ev.methK ok ?_
          o_new
          refine ⟨150, _, .inst ok mT mF rfl (by with_unfolding_all rfl) (by with_unfolding_all rfl) (by with_unfolding_all rfl), by with_unfolding_all rfl, ?_⟩
          o_new
          refine Op.fn ok (((ih k _ (Nat.le_trans (Tm.h_mem hkm) hh) (by lia) (by lia) (okk k hkm) (txk k hkm) mD mT mF).imp fun η' ⟨hp, e⟩ => ⟨hsub k hkm hp, e⟩).mono fun v η' zz => ?_) (Nat.le_refl _)
          refine ea0_2 zz fun zq4 e3 => ?_; try clear zz; refine ea0_2 zq4 fun e1 e2 => ?_; clear zq4
          subst e1 e3
          refine ⟨by rw [List.take_add_one, hk]; simp, rfl, fun k' hk' => ?_⟩
          rw [List.take_add_one, hk] at hk'
          rcases List.mem_append.mp hk' with h | h
          · exact i3 k' h
          · rw [List.mem_singleton.mp h]; exact e2
        · rw [List.drop_one, List.tail_cons, Tm.avs_length, List.take_length] at i1 i3
          rw [← lvals_map] at i1
          have i2 := i2.symm
          subst i1 i2
          intro D₁
          have mk : ∀ {η₁ : Store}, (D₁, AObj.list (lvals (envOf2 kvs) ks)) ∈ (D₁, AObj.list (lvals (envOf2 kvs) ks)) :: η₁ := List.mem_cons_self
          have nn : AV.none ∉ lvals (envOf2 kvs) ks := fun q => by
            rw [lvals_map] at q
            refine ea1_2 (List.mem_map.mp q) fun k hk e => ?_
            have := i3 k hk; rw [e] at this; cases this
          have vv : ∀ a ∈ lvals (envOf2 kvs) ks, (∃ i, a = .int i) ∨ ∃ l, a = .tup l := fun a ha => isV_cases (hv.1 a ha).2.1 fun q => nn (q ▸ ha)
          have mb' := menu_cases b
          have hvz : AV.wts (lvals (envOf2 kvs) ks) ≤ 1000000 := by
            have := hv.2
            have h2 : Tm.sizes ks * (1000 + 1) ≤ 500 * 1001 := Nat.mul_le_mul_right _ (by lia)
            lia
          have nbv : AV.nbs (lvals (envOf2 kvs) ks) = true := AV.nbs_iff.mpr fun a ha => (hv.1 a ha).1
          rw [lval]
          generalize lvals (envOf2 kvs) ks = vs at *
          refine Exs.cons (Ex.if (Tt.mono (Φb := fun q η' => q = ((if op = Str.ofString "cons" then vs.drop 1 else vs).any fun a => !a.isTup) ∧ (D₁, AObj.list vs) ∈ η' ∧ Keeps η η') ?_ fun q η' ⟨e1, e2, e3⟩ => ?_))
          · refine Tt.cmp ?_
            refine Ev.comp (ρ' := []) (n := n + 3) ok rfl (by decide) rfl (by decide) (by decide) (fun C => lk0) ?_
            o_new
            refine Op.itemT (a := .str op) (by decide) rfl ol ?_ fun _ _ => ⟨_, rfl⟩
            o_new
            refine Op.eq ok (.here rfl) (.here rfl) (.str opk) (.str (by decide +kernel)) ⟨_, rfl, fun q => ?_, fun q => ?_⟩
            · rw [eqv_str, beq_iff_eq] at q
              o_new
              refine Ev.sliceFrom fun D' tk => ?_
              refine Op.sliceL (l := vs) (l' := vs.drop 1) mk (.int 1 _) .none .none (by decide) (by lia) (fun h ws r => pick_from' r 1) (fun D₂ => ?_) fun _ _ => ⟨_, rfl⟩
              refine ⟨_, _, _, .list (l := vs.drop 1) (a := D₂), .some List.mem_cons_self, by rw [List.length_drop]; lia, fun C => ?_⟩
              refine .filter (fun a => !a.isTup) id (.some (by repeat (first | exact List.mem_cons_self | refine List.mem_cons_of_mem _ ?_))) (fun d hd => ?_) ?_
              · refine ⟨_, .name rfl rfl, ?_, fun _ => ?_⟩
                · o_new
                  refine Ev.callB (Ev.bltn (v := .builtin "isinstance") ok (by with_unfolding_all rfl) (by kernel_rfl) (by decide) ⟨_, rfl, ?_⟩)
                  o_new
                  refine Ev.bltn (v := .type "tuple") ok (by with_unfolding_all rfl) (by kernel_rfl) (by decide) ?_
                  o_new
                  have hd' : d ∈ vs := List.mem_of_mem_drop hd
                  have := vv d hd'
                  refine Op.isTup (AV.nb_pure (hv.1 _ hd').1) (by rcases this with ⟨_, rfl⟩ | ⟨_, rfl⟩ <;> simp) (by rcases this with ⟨_, rfl⟩ | ⟨_, rfl⟩ <;> simp) ?_
                  o_new
                  exact ⟨rfl, rfl⟩
                · o_new
                  exact ⟨rfl, rfl⟩
              · intro D₃
                rw [List.nil_append, List.map_id]
                o_new
                refine ⟨bl, fun D₄ => ?_⟩
                have nbf : AV.nbs ((vs.drop 1).filter fun a => !a.isTup) = true := AV.nbs_iff.mpr fun a ha => (hv.1 a (by have hd := (List.mem_filter.mp ha).1; exact List.mem_of_mem_drop hd)).1
                have dpf : AV.deps ((vs.drop 1).filter fun a => !a.isTup) ≤ 45 := AV.deps_le.mpr fun a ha => by have hd := (List.mem_filter.mp ha).1; have := (hv.1 a (List.mem_of_mem_drop hd)).2.2; lia
                have layf := AV.nbs_lay nbf
                refine Op.ne ok (.list (l := (vs.drop 1).filter fun a => !a.isTup) (List.mem_cons_of_mem _ List.mem_cons_self) (AV.nbs_pures nbf)) (.list (l := []) List.mem_cons_self rfl) (.list layf.1 (by lia)) (.list rfl (by decide)) ⟨_, rfl, ?_, (by repeat (first | exact List.mem_cons_self | refine List.mem_cons_of_mem _ ?_)), ?_⟩
                · rw [eqv_list0, if_pos q]
                  exact filter_any _ _
                · exact fun q hq => by repeat (first | exact hq | refine List.mem_cons_of_mem _ ?_)
            · rw [eqv_str, beq_eq_false_iff_ne] at q
              o_new
              refine ⟨_, _, _, .list (l := vs) (a := D₁), .some mk, by lia, fun C => ?_⟩
              refine .filter (fun a => !a.isTup) id (.some (by repeat (first | exact List.mem_cons_self | refine List.mem_cons_of_mem _ ?_))) (fun d hd => ?_) ?_
              · refine ⟨_, .name rfl rfl, ?_, fun _ => ?_⟩
                · o_new
                  refine Ev.callB (Ev.bltn (v := .builtin "isinstance") ok (by with_unfolding_all rfl) (by kernel_rfl) (by decide) ⟨_, rfl, ?_⟩)
                  o_new
                  refine Ev.bltn (v := .type "tuple") ok (by with_unfolding_all rfl) (by kernel_rfl) (by decide) ?_
                  o_new
                  have hd' : d ∈ vs := hd
                  have := vv d hd'
                  refine Op.isTup (AV.nb_pure (hv.1 _ hd').1) (by rcases this with ⟨_, rfl⟩ | ⟨_, rfl⟩ <;> simp) (by rcases this with ⟨_, rfl⟩ | ⟨_, rfl⟩ <;> simp) ?_
                  o_new
                  exact ⟨rfl, rfl⟩
                · o_new
                  exact ⟨rfl, rfl⟩
              · intro D₃
                rw [List.nil_append, List.map_id]
                o_new
                refine ⟨bl, fun D₄ => ?_⟩
                have nbf : AV.nbs ((vs).filter fun a => !a.isTup) = true := AV.nbs_iff.mpr fun a ha => (hv.1 a (by have hd := (List.mem_filter.mp ha).1; exact hd)).1
                have dpf : AV.deps ((vs).filter fun a => !a.isTup) ≤ 45 := AV.deps_le.mpr fun a ha => by have hd := (List.mem_filter.mp ha).1; have := (hv.1 a hd).2.2; lia
                have layf := AV.nbs_lay nbf
                refine Op.ne ok (.list (l := (vs).filter fun a => !a.isTup) (List.mem_cons_of_mem _ List.mem_cons_self) (AV.nbs_pures nbf)) (.list (l := []) List.mem_cons_self rfl) (.list layf.1 (by lia)) (.list rfl (by decide)) ⟨_, rfl, ?_, (by repeat (first | exact List.mem_cons_self | refine List.mem_cons_of_mem _ ?_)), ?_⟩
                · rw [eqv_list0, if_neg q]
                  exact filter_any _ _
                · exact fun q hq => by repeat (first | exact hq | refine List.mem_cons_of_mem _ ?_)
          · refine ⟨fun q1 => ?_, fun q1 => ?_⟩
            · subst q1
              have l1 : (Str.ofString " of what is no list has no value").length = 32 := by decide +kernel
              have l0 : Str.empty.length = 0 := rfl
              refine Exs.cons (Ex.raise ok ?_)
              refine Ev.callK ok (Ev.glob (v := .ref 60) ok (by with_unfolding_all rfl) ⟨60, rfl, by with_unfolding_all rfl, ?_⟩)
              refine Evs.cons ?_
              refine Ev.join (Jn.cons ?_)
              refine Ev.fmtStr ?_
              o_new
              refine Op.itemT (a := .str op) (by decide) rfl ol ?_ fun _ _ => ⟨_, rfl⟩
              refine ⟨op, rfl, by lia, ?_⟩
              refine ⟨op, rfl, by simp only [Str.length_append]; lia, Jn.cons ?_⟩
              o_new
              refine ⟨_, rfl, ?_, Jn.nil ?_ ?_⟩
              · simp only [Str.length_append]; lia
              · simp only [Str.length_append]; lia
              o_new
              refine Op.fault pg ok (by lia) fun e o xs a0 h1 h2 h3 h4 h5 => ?_
              refine ⟨e, o, 60, xs, a0, η, rfl, List.mem_cons_self, h1, h2, h3, h4, by with_unfolding_all rfl, by with_unfolding_all rfl, rfl, ⟨nodeV_bad mb' e1.symm, rfl⟩, fun q hq' => ⟨List.mem_cons_of_mem _ (e3 q hq'), fun z => h5 (z ▸ List.mem_map_of_mem (f := (·.1)) (e3 q hq'))⟩, fun _ => nd₀⟩
            · subst q1
              have all := fun a ha => isTup_cases (by simpa using List.any_eq_false.mp e1.symm a ha)
              o_new
              refine Op.itemT (a := .str op) (by decide) rfl ol ?_ fun _ _ => ⟨_, rfl⟩
              o_new
              refine Op.eq ok (.here rfl) (.here rfl) (.str opk) (.str (by decide +kernel)) ⟨_, rfl, fun q => ?_, fun q => ?_⟩
              · rw [eqv_str, beq_iff_eq] at q
                subst q
                rcases mb' with ⟨h, _⟩ | ⟨h, _⟩ | ⟨_, x, rfl⟩
                · exact absurd h (by decide)
                · exact absurd h (by decide)
                rw [if_neg (by decide)] at all
                refine ea1_1 (all x List.mem_cons_self) fun l yq5 => ?_; subst yq5
                have lz : l.length ≤ 1000000 := by
                  have := AV.length_le l; simp only [AV.wts, AV.wt] at hvz; lia
                o_new
                refine Op.itemL (a := .tup l) e2 (by decide) rfl bl ?_ fun _ _ => ⟨_, rfl⟩
                refine Ev.sliceRev fun D' tk => ?_
                refine Op.sliceTRev lz ?_ fun _ _ => ⟨_, rfl⟩
                exact ⟨⟨rfl, rfl⟩, e3⟩
              · rw [eqv_str, beq_eq_false_iff_ne] at q
                o_new
                refine Op.itemT (a := .str op) (by decide) rfl ol ?_ fun _ _ => ⟨_, rfl⟩
                o_new
                refine Op.eq ok (.here rfl) (.here rfl) (.str opk) (.str (by decide +kernel)) ⟨_, rfl, fun q' => ?_, fun q' => ?_⟩
                · rw [eqv_str, beq_iff_eq] at q'
                  subst q'
                  rw [if_pos rfl] at all
                  rcases mb' with ⟨_, x, y, rfl⟩ | ⟨h, _⟩ | ⟨h, _⟩
                  rotate_left
                  · exact absurd h (by decide)
                  · exact absurd h (by decide)
                  obtain ⟨l, rfl⟩ := all y (by simp)
                  have lz : l.length + 2 ≤ 1000000 := by
                    have := AV.length_le l; have := x.wt_pos; simp only [AV.wts, AV.wt] at hvz; lia
                  o_new
                  refine Op.itemL (a := x) e2 (by decide) rfl bl ?_ fun _ _ => ⟨_, rfl⟩
                  o_new
                  refine ⟨bl, ?_⟩
                  o_new
                  refine Op.itemL (a := .tup l) e2 (by decide) rfl bl ?_ fun _ _ => ⟨_, rfl⟩
                  refine Op.addT (by simp; lia) ?_
                  have : x.isNone = false := by
                    cases x with
                    | none => exact absurd (by simp) nn
                    | _ => rfl
                  refine ⟨⟨?_, rfl⟩, e3⟩
                  rw [nodeV, if_pos rfl, consV, this]; rfl
                · rw [eqv_str, beq_eq_false_iff_ne] at q'
                  rw [if_neg q'] at all
                  rcases mb' with ⟨h, _⟩ | ⟨rfl, x, y, rfl⟩ | ⟨h, _⟩
                  · exact absurd h q'
                  rotate_left
                  · exact absurd h q
                  obtain ⟨l, rfl⟩ := all x (by simp)
                  obtain ⟨k, rfl⟩ := all y (by simp)
                  have lz : l.length + k.length + 2 ≤ 1000000 := by
                    have := AV.length_le l; have := AV.length_le k; simp only [AV.wts, AV.wt] at hvz; lia
                  o_new
                  refine Op.itemL (a := .tup l) e2 (by decide) rfl bl ?_ fun _ _ => ⟨_, rfl⟩
                  o_new
                  refine Op.itemL (a := .tup k) e2 (by decide) rfl bl ?_ fun _ _ => ⟨_, rfl⟩
                  refine Op.addT (by lia) ?_
                  refine ⟨⟨?_, rfl⟩, e3⟩
                  rw [nodeV, if_neg (by decide), if_pos rfl]; rfl
end
theorem exs_use {c : Cx} {f : Fx} {env : Env} {st : List Stmt} {ρ : Locals} {η : Store} {Φn : Locals → Store → Prop} {Φr : AV → Store → Prop} {Ψ : Exc} {s : Shared} {E : Value → Shared → Prop} (h : Exs c f env st ρ η Φn Φr Ψ) (R : Rel c f env ρ η s) (hE : Esc c f η s Ψ E) : wpAny (model c.prog c.w) f.A (execs st env) (PostF c f env η s Φn Φr) E s := h s E R hE
section
variable {prog : Program} {w : World} {p : Program} {loose : List Str} {mean : ExcName → Option Value} {mg mb : Str → Option Value}
theorem told_ok (pg : Main prog) {D th dth : Addr} {kvs : List (Str × AV)} (lo : (D == sysModules) = false) (he : EnvV (envOf2 kvs) 5 1000) (hkn : ∀ x v, kvs.lookup x = Option.some v → v.isNone = false)
    (n : Nat) (t : Tm) (η : Store) (h : t.h ≤ n) (hn : n ≤ 40) (hz : t.size ≤ 500) (hok : t.ok = true) (hso : t.txt = true) (mD : (D, .dict kvs) ∈ η) (mT : (th, .raw (instObj 153 dth)) ∈ η) (mF : (dth, .flds []) ∈ η) (hv : (lval (envOf2 kvs) t).isNone = false) :
    FnC (cx prog w p loose mean mg mb) 176 (n + 4) [.val (.ref th), t.av, .val (.ref D)] η (fun v η' => v = lval (envOf2 kvs) t ∧ η' = η) Exc.no := by
  refine FnC.enter (body := [_]) (n := n + 3) (by with_unfolding_all rfl) (by with_unfolding_all rfl) ["theory", "term", "known"] rfl (fun s _ h => by apply len3.on h; intro _ _ _; exact .of_eq rfl) (by decide) (by decide) rfl rfl rfl fun g ok => ?_
  refine Exs.cons (Ex.tryNo ?_)
  refine Exs.cons (Ex.ret ?_)
  refine Ev.methK ok ?_
  o_new
  refine ⟨150, _, .inst ok mT mF rfl (by with_unfolding_all rfl) (by with_unfolding_all rfl) (by with_unfolding_all rfl), by with_unfolding_all rfl, ?_⟩
  o_new
  refine Op.fn ok (((value_ok pg lo he hkn n t η h hn hz hok hso mD mT mF).noRaise fun η' ⟨q, _⟩ => by rw [q] at hv; cases hv).mono fun v η' ⟨⟨e1, _⟩, e2⟩ => ⟨e1, e2⟩) (Nat.le_refl _)
theorem told_top (pg : Main prog) {D th dth : Addr} {kvs : List (Str × AV)} (lo : (D == sysModules) = false) (he : EnvV (envOf2 kvs) 5 1000) (hkn : ∀ x v, kvs.lookup x = Option.some v → v.isNone = false)
    (n : Nat) (t : Tm) (h : t.h ≤ n) (hn : n ≤ 40) (hz : t.size ≤ 500) (hok : t.ok = true) (hso : t.txt = true) {f : Fx} {ρ : Locals} {η : Store} {k : Nat} {Φ : AV → Store → Prop} {Ψ : Exc} (mD : (D, .dict kvs) ∈ η) (mT : (th, .raw (instObj 153 dth)) ∈ η) (mF : (dth, .flds []) ∈ η)
    (ok : FOk (cx prog w p loose mean mg mb) f k) (hk : n + 5 ≤ k) (htop : f.outer = []) (hΦ : Φ (lval (envOf2 kvs) t) η) : Op (cx prog w p loose mean mg mb) f f.env (callT (.ref 176)) [.val (.ref th), t.av, .val (.ref D)] ρ η Φ Ψ := fun vs s E r R hE => by
  refine wpAny_call (FnC.core (c := cx prog w p loose mean mg mb) (n := n + 4) (body := [_]) (by with_unfolding_all rfl) (by with_unfolding_all rfl) ["theory", "term", "known"] rfl (fun s _ h => by apply len3.on h; intro _ _ _; exact .of_eq rfl) (by decide) (by decide) rfl rfl rfl (ok.le hk) R r fun L' g h₁ tk ok' R' st hk₁ own new back => ?_)
  refine wpAny_execs_cons (wpAny_Try_except ?_)
  refine wpAny_mono (exs_use (Φn := fun _ _ => False) (Φr := fun v η' => v = lval (envOf2 kvs) t ∧ η' = η) (Ψ := ⟨.ref 60, fun η' => lval (envOf2 kvs) t = .none ∧ η' = η⟩) ?body R' ?esc) ?post fun _ _ x => x
  case body =>
    refine Exs.cons (Ex.ret ?_)
    refine Ev.methK ok' ?_
    o_new
    refine ⟨150, _, .inst ok' mT mF rfl (by with_unfolding_all rfl) (by with_unfolding_all rfl) (by with_unfolding_all rfl), by with_unfolding_all rfl, ?_⟩
    o_new
    exact Op.fn ok' ((value_ok pg lo he hkn n t η h hn hz hok hso mD mT mF).mono fun v η' ⟨⟨e1, _⟩, e2⟩ => ⟨e1, e2⟩) (by lia)
  case post =>
    intro fl s₂ hp
    rcases hp with ⟨_, _, _, _, _, q⟩ | ⟨v, rfl, av, ρ', η', R₂, t₂, r₂, e1, e2⟩
    · exact q.elim
    · subst e1 e2
      exact back s₂ v _ ρ' _ R₂ t₂ r₂ hΦ
  case esc =>
    intro x η' s' hX ⟨e1, e2⟩
    subst e2
    refine catch_top htop (ok.le hk) R ok' R' st hk₁ own new hX (by with_unfolding_all rfl) ⟨_, _, _, _, _, _, _, _, _, _, _, _, _, _, _, _, _, by with_unfolding_all rfl, by decide⟩ rfl rfl (by decide) fun s₂ R₂ t₂ => ?_
    refine ⟨.none, _, R₂, t₂, .none, ?_⟩
    rw [← e1]; exact hΦ
end
section
variable {c : Cx} {f : Fx} {ρ : Locals}
theorem CompIn.inv {cenv : Env} {t2 elt : Expr} {dep depO : Option (Addr × AObj)} {Φ : List AV → Store → Prop} (I : Nat → List AV → Store → Prop) (items : List AV) (hd : ∀ i acc η, I i acc η → Dep dep η ∧ Dep depO η ∧ acc.length ≤ 1000000)
    (h : ∀ i d acc η, items[i]? = some d → I i acc η → ∃ prs, (∀ x av, ρ.lookup x = some av → prs.lookup x = none) ∧ Asg c f cenv t2 d prs ∧ Ev c f cenv elt (prs ++ ρ) η (fun a η' => I (i + 1) (acc ++ [a]) η') Exc.no) (hend : ∀ acc η, I items.length acc η → Φ acc η) {acc : List AV} {η : Store} :
    I 0 acc η → CompIn c f cenv t2 elt ρ dep depO Φ items acc η := by
  have key : ∀ k i acc η, items.length - i = k → I i acc η → i ≤ items.length → CompIn c f cenv t2 elt ρ dep depO Φ (items.drop i) acc η := by
    intro k
    induction k with
    | zero =>
      intro i acc η hk hi hl
      have : i = items.length := by lia
      subst this
      rw [List.drop_length]
      exact hend acc η hi
    | succ k ih =>
      intro i acc η hk hi hl
      have hlt : i < items.length := by lia
      rw [List.drop_eq_getElem_cons hlt]
      refine ea1_3 (h i _ acc η (List.getElem?_eq_getElem hlt) hi) fun prs hdis ha he => ?_
      exact ⟨prs, (hd _ _ _ hi).2.2, hdis, ha, he.mono fun a η' k' => ⟨(hd _ _ _ k').1, (hd _ _ _ k').2.1, ih (i + 1) _ η' (by lia) k' hlt⟩⟩
  intro h0
  simpa using key _ 0 acc η rfl h0 (Nat.zero_le _)
theorem CompOut.inv {cenv : Env} {t1 t2 i2 elt : Expr} {depO : Option (Addr × AObj)} {Φ : List AV → Store → Prop} (J : Nat → List AV → Store → Prop) (items : List AV)
    (h : ∀ i d acc η, items[i]? = some d → J i acc η → ∃ prs, (∀ x av, ρ.lookup x = some av → prs.lookup x = none) ∧ Asg c f cenv t1 d prs ∧ Ev c f cenv i2 (prs ++ ρ) η (fun a η₁ => ∃ items2 dep, Src c f t2 a η₁ η₁ items2 dep ∧ Dep dep η₁ ∧ Dep depO η₁ ∧
      CompIn c f cenv t2 elt (prs ++ ρ) dep depO (fun acc η' => J (i + 1) acc η') items2 acc η₁) Exc.no) (hend : ∀ acc η, J items.length acc η → Φ acc η) {acc : List AV} {η : Store} :
    J 0 acc η → CompOut c f cenv t1 t2 i2 elt ρ depO Φ items acc η := by
  have imono : ∀ {dep : Option (Addr × AObj)} {ρ : Locals} {Φ Φ' : List AV → Store → Prop}, (∀ acc η, Φ acc η → Φ' acc η) → ∀ (l acc : List AV) (η : Store), CompIn c f cenv t2 elt ρ dep depO Φ l acc η → CompIn c f cenv t2 elt ρ dep depO Φ' l acc η := by
    intro dep ρ Φ Φ' hm l
    induction l with
    | nil => exact fun acc η h => hm _ _ h
    | cons d ds ih => exact fun acc η ⟨prs, a, b, e, g⟩ => ⟨prs, a, b, e, g.mono fun x η' ⟨k1, k2, k3⟩ => ⟨k1, k2, ih _ _ k3⟩⟩
  have key : ∀ k i acc η, items.length - i = k → J i acc η → i ≤ items.length → CompOut c f cenv t1 t2 i2 elt ρ depO Φ (items.drop i) acc η := by
    intro k
    induction k with
    | zero =>
      intro i acc η hk hi hl
      have : i = items.length := by lia
      subst this
      rw [List.drop_length]
      exact hend acc η hi
    | succ k ih =>
      intro i acc η hk hi hl
      have hlt : i < items.length := by lia
      rw [List.drop_eq_getElem_cons hlt]
      refine ea1_3 (h i _ acc η (List.getElem?_eq_getElem hlt) hi) fun prs hdis ha he => ?_
      exact ⟨prs, hdis, ha, he.mono fun a η₁ ⟨items2, dep, k1, k2, k3, k4⟩ => ⟨items2, dep, k1, k2, k3, imono (fun acc η' q => ih (i + 1) acc η' (by lia) q hlt) _ _ _ k4⟩⟩
  intro h0
  simpa using key _ 0 acc η rfl h0 (Nat.zero_le _)
variable {env : Env} {η : Store} {Φ : AV → Store → Prop} {Ψ : Exc}
theorem Op.isNone {a : AV} (hv : ∀ v, a ≠ .val v) (h : Φ (.bool a.isNone) η) : Op c f env (cmpT .Is) [a, .none] ρ η Φ Ψ := fun vs s E r R _ => by
  (apply RvAll.e2 r; intro _ _ r r')
  first | apply Rv.eVal r' | (apply Rv.eInt r'; intro _) | (apply Rv.eStr r'; intro _) | apply Rv.eBool r' | cases r'
  · cases r with
    | none => exact is_none_none (.here R (.bool _) h)
    | bool b => exact is_bool_none (.here R (.bool _) h)
    | int i t => exact is_int_none (.here R (.bool _) h)
    | str x t => exact is_str_none (.here R (.bool _) h)
    | tup t q => exact is_ref_none (.here R (.bool _) h)
    | val => exact absurd rfl (hv _)
end
/-- a list of the law, an element or such a list -/
noncomputable def GoodL (v : AV) : Prop := ∃ l : List Int, v = .tup (iList l) ∧ l.length ≤ 3
noncomputable def GoodE (v : AV) : Prop := (∃ i, v = .int i) ∨ GoodL v
noncomputable def GoodV (asked : List (Str × Bool)) (x : Str) (v : AV) : Prop := if asked.lookup x = some true then GoodE v else GoodL v
theorem GoodV.e {asked : List (Str × Bool)} {x : Str} {v : AV} (h : GoodV asked x v) : GoodE v := by
  unfold GoodV at h; split at h
  · exact h
  · exact .inr h
theorem iList_ok : ∀ l : List Int, AV.nbs (iList l) = true ∧ AV.deps (iList l) ≤ 1 ∧ AV.wts (iList l) ≤ 2 * l.length
  | [] => ⟨rfl, by decide, by decide⟩
  | i :: l => by
    refine ea0_3 (iList_ok l) fun a b e => ?_
    refine ⟨?_, ?_, ?_⟩
    · show AV.nbs (.int i :: iList l) = true
      rw [AV.nbs, a]; rfl
    · show AV.deps (.int i :: iList l) ≤ 1
      have : (AV.int i).dep = 0 := by simp only [AV.dep]
      rw [AV.deps, this]; lia
    · show AV.wts (.int i :: iList l) ≤ _
      have : (AV.int i).wt = 1 := by simp only [AV.wt]
      rw [AV.wts, this, List.length_cons]; lia
theorem GoodE.ok {v : AV} (h : GoodE v) : VOk 3 50 v := by
  rcases h with ⟨i, rfl⟩ | ⟨l, rfl, hl⟩
  · exact ⟨rfl, rfl, by simp only [AV.dep]; lia, by simp only [AV.wt]; lia⟩
  · refine ea0_3 (iList_ok l) fun a b e => ?_
    exact .tup a (by lia) (by lia)
theorem GoodE.some {v : AV} (h : GoodE v) : v.isNone = false := by
  rcases h with ⟨i, rfl⟩ | ⟨l, rfl, hl⟩ <;> rfl
theorem envV_of {kvs : List (Str × AV)} (h : ∀ p ∈ kvs, GoodE p.2) : EnvV (envOf2 kvs) 5 1000 ∧ ∀ x v, kvs.lookup x = some v → v.isNone = false := by
  have key : ∀ x v, kvs.lookup x = some v → GoodE v := fun x v e => h _ (mem_of_lookup e)
  have all : ∀ x, VOk 3 50 (envOf2 kvs x) := fun x => by
    unfold envOf2
    cases e : kvs.lookup x with
    | none => exact .none (by decide)
    | some v => exact (key x v e).ok
  exact ⟨⟨fun x => (all x).1, fun x => (all x).2.1, fun x => by have := (all x).2.2.1; lia, fun x => by have := (all x).2.2.2; lia⟩, fun x v e => (key x v e).some⟩
/-- the sides of a rule have one list, by the names on its left -/
theorem rule_both {env : Str → AV} : ∀ r ∈ rules8, (∀ p ∈ nmL r.2.1 false, if p.2 then (env p.1).isNone = false else ∃ l, env p.1 = .tup l) → lval env r.2.1 = lval env r.2.2 ∧ ∃ l, lval env r.2.1 = .tup l := by
  have va : lval env tA = env (Str.ofString "?a") := lval_leaf (by decide)
  have vb : lval env tB = env (Str.ofString "?b") := lval_leaf (by decide)
  have vc : lval env tC = env (Str.ofString "?c") := lval_leaf (by decide)
  intro r hr h
  simp only [rules8, List.mem_cons, List.not_mem_nil, or_false] at hr
  rcases hr with rfl | rfl | rfl | rfl | rfl | rfl | rfl | rfl
  · obtain ⟨a, ha⟩ := h (Str.ofString "?a", false) (by decide +kernel)
    simp only at ha
    simp only [lval_app, lval_nil, va, ha, appV, appV2, List.nil_append]; first | exact ⟨rfl, _, rfl⟩ | exact ⟨trivial, _, rfl⟩
  · have ha := h (Str.ofString "?a", true) (by decide +kernel)
    obtain ⟨b, hb⟩ := h (Str.ofString "?b", false) (by decide +kernel)
    obtain ⟨d, hd⟩ := h (Str.ofString "?c", false) (by decide +kernel)
    simp only at ha hb hd
    replace ha : (env (Str.ofString "?a")).isNone = false := ha
    simp only [lval_app, lval_cons, va, vb, vc, hb, hd, consV, ha, appV, appV2, Bool.false_eq_true, if_false]; first | exact ⟨rfl, _, rfl⟩ | exact ⟨trivial, _, rfl⟩
  · obtain ⟨a, ha⟩ := h (Str.ofString "?a", false) (by decide +kernel)
    simp only at ha
    simp only [lval_app, lval_nil, va, ha, appV, appV2, List.append_nil]; first | exact ⟨rfl, _, rfl⟩ | exact ⟨trivial, _, rfl⟩
  · obtain ⟨a, ha⟩ := h (Str.ofString "?a", false) (by decide +kernel)
    obtain ⟨b, hb⟩ := h (Str.ofString "?b", false) (by decide +kernel)
    obtain ⟨d, hd⟩ := h (Str.ofString "?c", false) (by decide +kernel)
    simp only at ha hb hd
    simp only [lval_app, va, vb, vc, ha, hb, hd, appV, appV2, List.append_assoc]; first | exact ⟨rfl, _, rfl⟩ | exact ⟨trivial, _, rfl⟩
  · simp only [lval_rev, lval_nil, revV, List.reverse_nil]; first | exact ⟨rfl, _, rfl⟩ | exact ⟨trivial, _, rfl⟩
  · have ha := h (Str.ofString "?a", true) (by decide +kernel)
    obtain ⟨b, hb⟩ := h (Str.ofString "?b", false) (by decide +kernel)
    simp only at ha hb
    replace ha : (env (Str.ofString "?a")).isNone = false := ha
    simp only [lval_app, lval_rev, lval_cons, lval_nil, va, vb, hb, consV, ha, appV, appV2, revV, Bool.false_eq_true, if_false, List.reverse_cons]; first | exact ⟨rfl, _, rfl⟩ | exact ⟨trivial, _, rfl⟩
  · obtain ⟨a, ha⟩ := h (Str.ofString "?a", false) (by decide +kernel)
    obtain ⟨b, hb⟩ := h (Str.ofString "?b", false) (by decide +kernel)
    simp only at ha hb
    simp only [lval_app, lval_rev, va, vb, ha, hb, appV, appV2, revV, List.reverse_append]; first | exact ⟨rfl, _, rfl⟩ | exact ⟨trivial, _, rfl⟩
  · obtain ⟨a, ha⟩ := h (Str.ofString "?a", false) (by decide +kernel)
    simp only at ha
    simp only [lval_rev, va, ha, revV, List.reverse_reverse]; first | exact ⟨rfl, _, rfl⟩ | exact ⟨trivial, _, rfl⟩
/-- what is asked of a rule, all small -/
theorem rules8_facts : ∀ r ∈ rules8, mkB r.2.1 r.2.2 = true ∧ ((nmL r.2.1 false).map (·.1)).Nodup ∧ (nmL r.2.1 false).length ≤ 3 ∧ r.2.1 ≠ r.2.2 := by
  intro r hr
  simp only [rules8, List.mem_cons, List.not_mem_nil, or_false] at hr
  rcases hr with rfl | rfl | rfl | rfl | rfl | rfl | rfl | rfl
  all_goals exact ⟨by decide +kernel, by decide +kernel, by decide +kernel, fun q => by simp [tApp, tCons, tRev, tNil, tA, tB, tC] at q⟩
/-- a row of the values that the names have -/
noncomputable def RowOk (asked : List (Str × Bool)) (names : List Str) (η : Store) (d : Addr) : Prop := ∃ kvs, (d, .dict kvs) ∈ η ∧ (d == sysModules) = false ∧ kvs.map (·.1) = names ∧ ∀ p ∈ kvs, GoodV asked p.1 p.2
theorem RowOk.keeps {asked : List (Str × Bool)} {names : List Str} {η η' : Store} {d : Addr} (h : RowOk asked names η d) (k : Keeps η η') : RowOk asked names η' d := let ⟨kvs, a, b⟩ := h; ⟨kvs, k _ a, b⟩
noncomputable def askAV (l : List (Str × Bool)) : List (Str × AV) := l.map fun p => (p.1, .bool p.2)
theorem askAV_pairs (l : List (Str × Bool)) : (askAV l).map pairAV = nmAV l := by rw [askAV, nmAV, List.map_map]; rfl
theorem askAV_keys (l : List (Str × Bool)) : (askAV l).map (·.1) = l.map (·.1) := by rw [askAV, List.map_map]; rfl
theorem askAV_lookup {x : Str} : ∀ {l : List (Str × Bool)}, x ∈ l.map (·.1) → ∃ b, (askAV l).lookup x = some (.bool b) ∧ l.lookup x = some b
  | [], h => nomatch h
  | (y, b) :: l, h => by
    rw [askAV, List.map_cons, List.lookup_cons, List.lookup_cons]
    by_cases q : x = y
    · subst q; simp
    · rw [show (x == y) = false from beq_eq_false_iff_ne.mpr q]
      rw [List.map_cons, List.mem_cons] at h
      exact askAV_lookup (h.resolve_left q)
theorem lookup_nodup {x : Str} {b : Bool} : ∀ {l : List (Str × Bool)}, (l.map (·.1)).Nodup → (x, b) ∈ l → l.lookup x = some b
  | [], _, h => nomatch h
  | (y, d) :: l, hn, h => by
    rw [List.map_cons, List.nodup_cons] at hn
    rw [List.lookup_cons]
    rcases List.mem_cons.mp h with q | h
    · cases q; simp
    · rw [show (x == y) = false from beq_eq_false_iff_ne.mpr fun q => hn.1 (q ▸ List.mem_map_of_mem (f := (·.1)) h)]
      exact lookup_nodup hn.2 h
theorem lookup_key {x : Str} : ∀ {l : List (Str × AV)}, x ∈ l.map (·.1) → ∃ v, l.lookup x = some v
  | [], h => nomatch h
  | (y, b) :: l, h => by
    rw [List.lookup_cons]
    by_cases q : x = y
    · subst q; simp
    · rw [show (x == y) = false from beq_eq_false_iff_ne.mpr q]
      rw [List.map_cons, List.mem_cons] at h
      exact lookup_key (h.resolve_left q)
/-- a whole row gives a rule's sides one list -/
theorem row_same {r : Str × Tm × Tm} (hr : r ∈ rules8) {kvs : List (Str × AV)} {names : List Str} (hk : kvs.map (·.1) = names) (hp : names.Perm ((nmL r.2.1 false).map (·.1))) (hg : ∀ p ∈ kvs, GoodV (nmL r.2.1 false) p.1 p.2) :
    lval (envOf2 kvs) r.2.1 = lval (envOf2 kvs) r.2.2 ∧ ∃ l, lval (envOf2 kvs) r.2.1 = .tup l := by
  refine rule_both r hr fun p hp' => ?_
  have hn := (rules8_facts r hr).2.1
  have : p.1 ∈ kvs.map (·.1) := by rw [hk]; exact hp.mem_iff.mpr (List.mem_map_of_mem (f := (·.1)) hp')
  refine ea1_1 (lookup_key this) fun v hv => ?_
  have g := hg _ (mem_of_lookup hv)
  have e : envOf2 kvs p.1 = v := by rw [envOf2, hv]; rfl
  rw [e]
  have hl := lookup_nodup (x := p.1) (b := p.2) hn hp'
  simp only [GoodV, hl] at g
  cases q : p.2 with
  | true => rw [q] at g; simp only [if_true] at g ⊢; exact g.some
  | false =>
    rw [q] at g
    simp only [Option.some.injEq, Bool.false_eq_true, if_false] at g ⊢
    refine ea1_2 g fun l e _ => ?_; try clear g; exact ⟨_, e⟩
section
variable {prog : Program} {w : World} {p : Program} {loose : List Str} {mean : ExcName → Option Value} {mg mb : Str → Option Value}
theorem right_ok (pg : Main prog) {th dth Dl De : Addr} {lists elements : List AV} (hl : ∀ v ∈ lists, GoodL v) (he : ∀ v ∈ elements, GoodE v) (hlz : lists.length ≤ 3) (hez : elements.length ≤ 3) (r : RuleD) (hr : (r.name, r.left, r.right) ∈ rules8) (η : Store)
    (mT : (th, .raw (instObj 153 dth)) ∈ η) (mF : (dth, .flds []) ∈ η) (mL : (Dl, .list lists) ∈ η) (mE : (De, .list elements) ∈ η) (mR : (r.x, .raw (instObj 113 r.dx)) ∈ η) (mX : (r.dx, .flds r.flds) ∈ η) :
    FnC (cx prog w p loose mean mg mb) 188 11 [.val (.ref th), .val (.ref r.x), .val (.ref Dl), .val (.ref De)] η (fun v η' => v = .bool true ∧ η' = η) Exc.no := by
  refine ea0_4 (rules8_facts _ hr) fun hm hnd hn3 hne => ?_
  simp only at hm hnd hn3 hne
  have hsame := fun {kvs : List (Str × AV)} {names : List Str} (a : kvs.map (·.1) = names) b d => row_same (kvs := kvs) hr a b d
  simp only at hsame
  generalize hask : nmL r.left false = ask at *
  unfold mkB at hm
  simp only [Bool.and_eq_true, decide_eq_true_eq, Bool.not_eq_true', List.all_eq_true] at hm
  refine ea0_2 hm fun zq1 h12 => ?_; try clear hm; refine ea0_2 zq1 fun zq2 h11 => ?_; refine ea0_2 zq2 fun zq3 h10 => ?_; refine ea0_2 zq3 fun zq4 h9 => ?_; refine ea0_2 zq4 fun zq5 h8 => ?_; refine ea0_2 zq5 fun zq6 h7 => ?_; refine ea0_2 zq6 fun zq7 h6 => ?_; refine ea0_2 zq7 fun zq8 h5 => ?_; refine ea0_2 zq8 fun zq9 h4 => ?_; refine ea0_2 zq9 fun zq10 h3 => ?_; refine ea0_2 zq10 fun h1 h2 => ?_; clear zq10; clear zq9; clear zq8; clear zq7; clear zq6; clear zq5; clear zq4; clear zq3; clear zq2; clear zq1
  refine .same (FnC.enter (body := [_, _, _, _]) (n := 10) (by with_unfolding_all rfl) (by with_unfolding_all rfl) ["theory", "rule", "lists", "elements"] rfl (fun s _ h => by apply len4.on h; intro _ _ _ _; exact .of_eq rfl) (by decide) (by decide) rfl rfl rfl fun g ok => ?_)
  refine .cons (.assignTup ok (.inr rfl) (.inl rfl) ?_)
  o_new
  refine Ev.callTy (Ev.bltn (v := .type "dict") ok (by with_unfolding_all rfl) (by kernel_rfl) (by decide) ⟨_, rfl, ?_⟩)
  o_new
  refine Ev.callK ok (Ev.glob (v := .ref 183) ok (by with_unfolding_all rfl) ⟨183, rfl, by with_unfolding_all rfl, ?_⟩)
  o_new
  refine Ev.attr (a := r.x) (dx := r.dx) (C := 113) (l := r.flds) ok rfl mR mX (av := r.left.av) rfl (by cases r.left; rfl) (by with_unfolding_all rfl) (by with_unfolding_all rfl) (by with_unfolding_all rfl) (by with_unfolding_all rfl) ?_
  o_new
  refine Op.fn ok ((names_ok 6 r.left false η h1 (by decide) (by lia) h5 h7).mono fun v η' zz => ?_) (by decide)
  refine ea1_3 zz fun D e1 e2 nD => ?_; try clear zz
  subst e1 e2
  o_new
  rw [hask, ← askAV_pairs]
  refine Op.dictPairs ok (l := askAV ask) List.mem_cons_self (by rw [askAV_keys]; exact hnd) (by rw [askAV, List.length_map]; lia) rfl fun Da loA => ?_
  o_new
  refine Ev.dict0 ok fun Dr loR => ?_
  o_new
  refine ⟨bl, fun Ds => ?_⟩
  o_new
  refine ⟨bl, _, _, .tup, ?_⟩
  have hasl : (askAV ask).length ≤ 3 := by rw [askAV, List.length_map]; exact hn3
  refine Exs.cons ?_
  refine Ex.forL [("rows", .val (.ref Ds)), ("theory", .val (.ref th)), ("rule", .val (.ref r.x)), ("lists", .val (.ref Dl)), ("elements", .val (.ref De)), ("asked", .val (.ref Da))] (lk1 rfl (lk1 rfl (lk1 rfl (lk1 rfl (lk1 rfl (lk1 rfl lk0)))))) ?_
  refine Ev.callB (Ev.bltn (v := .builtin "sorted") ok (by with_unfolding_all rfl) (by kernel_rfl) (by decide) ⟨_, rfl, ?_⟩)
  o_new
  refine Op.sortedD (l := askAV ask) (by repeat (first | exact List.mem_cons_self | refine List.mem_cons_of_mem _ ?_)) loA (by lia) fun Ly ys hys => ?_
  rw [askAV_keys] at hys
  have hyl : ys.length ≤ 3 := by rw [hys.length_eq, List.length_map]; exact hn3
  have hynd : ys.Nodup := hys.nodup_iff.mpr hnd
  refine ⟨_, _, _, .list (l := ys.map .str) (a := Ly), fun i ρ η' => ∃ D ds, ρ = ([("rows", .val (.ref D)), ("theory", .val (.ref th)), ("rule", .val (.ref r.x)), ("lists", .val (.ref Dl)), ("elements", .val (.ref De)), ("asked", .val (.ref Da))] : Locals) ∧ (Ly, .list (ys.map .str)) ∈ η' ∧ (Da, .dict (askAV ask)) ∈ η' ∧ Keeps η η' ∧
      (D, .list (ds.map fun d => AV.val (.ref d))) ∈ η' ∧ ds.length ≤ 3 ^ i ∧ ∀ d ∈ ds, RowOk ask (ys.take i) η' d, ⟨Ds, [Dr], rfl, (by repeat (first | exact List.mem_cons_self | refine List.mem_cons_of_mem _ ?_)), (by repeat (first | exact List.mem_cons_self | refine List.mem_cons_of_mem _ ?_)), fun q hq => by repeat (first | exact hq | refine List.mem_cons_of_mem _ ?_), (by repeat (first | exact List.mem_cons_self | refine List.mem_cons_of_mem _ ?_)), Nat.le_refl _, fun d hd => ?_⟩, fun i ρ η' ⟨_, _, _, h, _⟩ => .some h, fun i d hd ρ₁ η₁ hI => ?_, fun ρ₁ η₁ hI => ?_⟩
  · obtain rfl := List.mem_singleton.mp hd
    exact ⟨[], (by repeat (first | exact List.mem_cons_self | refine List.mem_cons_of_mem _ ?_)), loR, rfl, fun _ h => nomatch h⟩
  · refine ea2_7 hI fun D ds yq12 mY mA kη mD dl hrows => ?_; try clear hI; subst yq12
    rw [List.getElem?_map] at hd
    refine ea1_2 (Option.map_eq_some_iff.mp hd) fun y hy yq13 => ?_; subst yq13
    have hi3 : i < 3 := by have := (List.getElem?_eq_some_iff.mp hy).1; lia
    have hdl : ds.length ≤ 27 := Nat.le_trans dl (Nat.le_trans (Nat.pow_le_pow_right (by decide) (Nat.le_of_lt hi3)) (by decide))
    have tks : ys.take (i + 1) = ys.take i ++ [y] := take_snoc hy
    have hym : y ∈ ask.map (·.1) := hys.mem_iff.mp (List.mem_of_getElem? hy)
    refine ea1_2 (askAV_lookup hym) fun bA lA lA' => ?_
    have tnd : (ys.take i ++ [y]).Nodup := by rw [← tks]; exact List.Sublist.nodup (List.take_sublist _ _) hynd
    refine ⟨_, .name ok (.inr rfl), ?_⟩
    o_new
    refine Ex.assignPair (ρ' := [("name", .str y), ("lists", .val (.ref Dl)), ("elements", .val (.ref De)), ("asked", .val (.ref Da))]) ok rfl (by with_unfolding_all rfl) rfl (by decide) rfl (by decide) ?hρ ?_
    case hρ => exact fun C => lk1 ⟨rfl, rfl, rfl, rfl⟩ (lk1 ⟨rfl, rfl, rfl, rfl⟩ (lk1 ⟨rfl, rfl, rfl, rfl⟩ (lk1 ⟨rfl, rfl, rfl, rfl⟩ lk0)))
    o_new
    refine ⟨_, _, _, .list (a := D), .some mD, fun C => ?_⟩
    refine CompOut.inv (fun j acc η' => ∃ es : List Addr, acc = es.map (fun d => AV.val (.ref d)) ∧ es.length ≤ 3 * j ∧ (∀ d ∈ es, RowOk ask (ys.take (i + 1)) η' d) ∧ Keeps η₁ η') _ (fun j d acc η₂ hd hJ => ?_) (fun acc η₂ hJ => ?_) ⟨[], rfl, Nat.zero_le _, (fun _ h => nomatch h), Keeps.refl _⟩
    · refine ea1_4 hJ fun es yq14 esl hes kη₂ => ?_; try clear hJ; subst yq14
      rw [List.getElem?_map] at hd
      refine ea1_2 (Option.map_eq_some_iff.mp hd) fun d hd' yq15 => ?_; subst yq15
      have hj : j < 27 := by have := (List.getElem?_eq_some_iff.mp hd').1; lia
      refine ea1_4 ((hrows d (List.mem_of_getElem? hd')).keeps kη₂) fun kvs mk lok hkk hkg => ?_
      have hkl : kvs.length ≤ 3 := by rw [← List.length_map (·.1), hkk, List.length_take]; lia
      have mE₂ := kη₂ _ (kη _ mE)
      have mL₂ := kη₂ _ (kη _ mL)
      have mA₂ := kη₂ _ mA
      refine ⟨_, lk1 rfl (lk1 rfl (lk1 rfl (lk1 rfl lk0))), .name rfl rfl, ?_⟩
      refine Ev.mono (Φ := fun a η' => ∃ X vs, a = .val (.ref X) ∧ η' = η₂ ∧ (X, .list vs) ∈ η₂ ∧ (∀ v ∈ vs, GoodV ask y v) ∧ vs.length ≤ 3) ?_ fun a η' ⟨X, vs, e1, e2, mX', hvs, hvl⟩ => ?_
      · o_new
        refine Tt.of ?_
        o_new
        refine Op.dictSub mA₂ lA ?_ fun _ _ => ⟨_, rfl⟩
        o_new
        refine ⟨fun q => ?_, fun q => ?_⟩
        · subst q
          o_new
          exact ⟨De, elements, rfl, rfl, mE₂, fun v hv => by rw [GoodV, if_pos lA']; exact he v hv, hez⟩
        · subst q
          o_new
          exact ⟨Dl, lists, rfl, rfl, mL₂, fun v hv => by rw [GoodV, if_neg (by rw [lA']; simp)]; exact hl v hv, hlz⟩
      · subst e1 e2
        refine ⟨vs, _, .list, .some mX', .some (kη₂ _ mD), ?_⟩
        refine CompIn.inv (fun k acc η' => ∃ es : List Addr, acc = es.map (fun d => AV.val (.ref d)) ∧ es.length ≤ 3 * j + k ∧ k ≤ vs.length ∧ (∀ d ∈ es, RowOk ask (ys.take (i + 1)) η' d) ∧ Keeps η₁ η' ∧ (X, .list vs) ∈ η' ∧ (d, .dict kvs) ∈ η') _ (fun k acc η' ⟨es, e1, e2, e3, _, e5, e6, _⟩ => ⟨.some e6, .some (e5 _ mD), by rw [e1, List.length_map]; lia⟩) (fun k v acc η₃ hv hI => ?_) (fun acc η₃ hI => ?_) ⟨es, rfl, esl, Nat.zero_le _, hes, kη₂, mX', mk⟩
        · refine ea1_7 hI fun es yq16 esl hkv hes kη₃ mX₃ mk₃ => ?_; try clear hI; subst yq16
          have hkv' := (List.getElem?_eq_some_iff.mp hv).1
          have gv := hvs v (List.mem_of_getElem? hv)
          refine ⟨_, lk1 rfl (lk1 rfl (lk1 rfl (lk1 rfl (lk1 rfl lk0)))), .name rfl rfl, ?_⟩
          refine Ev.callTy (Ev.bltn (v := .type "dict") ok (by with_unfolding_all rfl) (by kernel_rfl) (by decide) ⟨_, rfl, ?_⟩)
          o_new
          refine Ev.callTy (Ev.bltn (v := .type "list") ok (by with_unfolding_all rfl) (by kernel_rfl) (by decide) ⟨_, rfl, ?_⟩)
          refine Evs.cons ?_
          refine Ev.methB0 ?_
          o_new
          refine ⟨_, _, .dict mk₃ PySem.F.slot_dict_items PySem.F.type_dict_items, ?_⟩
          refine Op.items mk₃ lok fun V => ?_
          o_new
          refine Op.listItems (by repeat (first | exact List.mem_cons_self | refine List.mem_cons_of_mem _ ?_)) (l := kvs) (D := d) (List.mem_cons_of_mem _ mk₃) (by lia) rfl fun L1 => ?_
          o_new
          refine ⟨bl, ?_⟩
          o_new
          refine ⟨bl, fun L2 => ?_⟩
          refine Op.addL (a := kvs.map pairAV) (b := [.tup [.str y, v]]) (by repeat (first | exact List.mem_cons_self | refine List.mem_cons_of_mem _ ?_)) (by repeat (first | exact List.mem_cons_self | refine List.mem_cons_of_mem _ ?_)) (by rw [List.length_map]; simp; lia) fun L3 => ?_
          o_new
          have e : kvs.map pairAV ++ [.tup [.str y, v]] = (kvs ++ [(y, v)]).map pairAV := by simp [pairAV]
          rw [e]
          refine Op.dictPairs ok (by repeat (first | exact List.mem_cons_self | refine List.mem_cons_of_mem _ ?_)) (by rw [List.map_append, hkk]; exact tnd) (by simp; lia) rfl fun Dn lon => ?_
          have kk : Keeps η₃ ((Dn, .dict (kvs ++ [(y, v)])) :: (L3, .list ((kvs ++ [(y, v)]).map pairAV)) :: (L2, .list [.tup [.str y, v]]) :: (L1, .list (kvs.map pairAV)) :: (V, .raw (viewO d)) :: η₃) := (Keeps.refl _).cons.cons.cons.cons.cons
          refine ⟨es ++ [Dn], by rw [List.map_append]; rfl, by rw [List.length_append]; simp; lia, by lia, fun d' hd'' => ?_, kη₃.trans kk, kk _ mX₃, kk _ mk₃⟩
          rcases List.mem_append.mp hd'' with h | h
          · exact (hes d' h).keeps kk
          · obtain rfl := List.mem_singleton.mp h
            refine ⟨kvs ++ [(y, v)], List.mem_cons_self, lon, by rw [List.map_append, hkk, tks]; rfl, fun q hq => ?_⟩
            rcases List.mem_append.mp hq with hq | hq
            · exact hkg q hq
            · obtain rfl := List.mem_singleton.mp hq; exact gv
        · refine ea1_7 hI fun es yq17 esl hkv hes kη₃ mX₃ mk₃ => ?_; try clear hI; subst yq17
          exact ⟨es, rfl, by lia, hes, kη₃⟩
    · refine ea1_4 hJ fun es yq18 esl hes kη₂ => ?_; try clear hJ; subst yq18
      intro Dn
      o_new
      rw [List.length_map] at esl
      refine ⟨[("rows", .val (.ref Dn)), ("theory", .val (.ref th)), ("rule", .val (.ref r.x)), ("lists", .val (.ref Dl)), ("elements", .val (.ref De)), ("asked", .val (.ref Da))], lk1 rfl (lk1 rfl (lk1 rfl (lk1 rfl (lk1 rfl (lk1 rfl lk0))))), Dn, es, rfl, (kη₂.cons) _ mY, (kη₂.cons) _ mA, kη.trans kη₂.cons, List.mem_cons_self, by rw [Nat.pow_succ]; lia, fun d hd => (hes d hd).keeps (Keeps.refl _).cons⟩
  · refine ea2_7 hI fun D ds yq19 mY mA kη mD dl hrows => ?_; try clear hI; subst yq19
    rw [List.length_map] at dl hrows
    rw [List.take_length] at hrows
    have hdl : ds.length ≤ 27 := Nat.le_trans dl (Nat.le_trans (Nat.pow_le_pow_right (by decide) hyl) (by decide))
    refine Exs.cons ?_
    refine Ex.forI [("rows", .val (.ref D)), ("theory", .val (.ref th)), ("rule", .val (.ref r.x)), ("lists", .val (.ref Dl)), ("elements", .val (.ref De)), ("asked", .val (.ref Da))] (fun _ _ h => h) ?_
    o_new
    refine ⟨_, _, _, .list (a := D), fun _ η' => η' = η₁, rfl, fun i η' h => by rw [h]; exact .some mD, fun i d hd η' h => ?_, fun η' h => ?_⟩
    · subst h
      rw [List.getElem?_map] at hd
      refine ea1_2 (Option.map_eq_some_iff.mp hd) fun d hd' yq20 => ?_; subst yq20
      refine ea1_4 (hrows d (List.mem_of_getElem? hd')) fun kvs mk lok hkk hkg => ?_
      refine ea0_2 (envV_of (kvs := kvs) fun q hq => (hkg q hq).e) fun hEv hSome => ?_
      refine ea0_2 (hsame hkk hys hkg) fun hs1 zq21 => ?_; refine ea1_1 zq21 fun l hs2 => ?_; clear zq21
      have hv1 : (lval (envOf2 kvs) r.left).isNone = false := by rw [hs2]; rfl
      have hv2 : (lval (envOf2 kvs) r.right).isNone = false := by rw [← hs1, hs2]; rfl
      have vok := lval_ok hEv r.left
      have nbl : (lval (envOf2 kvs) r.left).nb = true := vok.1
      have hsh : Sh (lval (envOf2 kvs) r.left).pd := AV.sh nbl (by have := vok.2.2.1; lia)
      have pul : (lval (envOf2 kvs) r.left).pure = true := AV.nb_pure nbl
      have eqv := (AV.nb_eqv nbl nbl).mpr rfl
      refine ⟨_, .name ok (.inl rfl), ?_⟩
      refine Exs.cons (.assign ok (.inl rfl) ?_)
      refine Ev.callK ok (Ev.glob (v := .ref 169) ok (by with_unfolding_all rfl) ⟨169, rfl, by with_unfolding_all rfl, ?_⟩)
      refine Evs.cons ?_
      refine Ev.attr (a := r.x) (dx := r.dx) (C := 113) (l := r.flds) ok rfl (kη _ mR) (kη _ mX) (av := r.left.av) rfl (by cases r.left; rfl) (by with_unfolding_all rfl) (by with_unfolding_all rfl) (by with_unfolding_all rfl) (by with_unfolding_all rfl) ?_
      o_new
      refine Op.fn ok ((val_ok lok hEv 6 r.left _ h1 (by decide) (by lia) h5 mk).to ?_) (by decide)
      o_new
      refine Op.isNone (fun v q => by rw [hs2] at q; cases q) ⟨_, rfl, fun _ => ?_, fun q => by rw [hv1] at q; cases q⟩
      o_new
      refine Ev.callK ok (Ev.glob (v := .ref 169) ok (by with_unfolding_all rfl) ⟨169, rfl, by with_unfolding_all rfl, ?_⟩)
      refine Evs.cons ?_
      refine Ev.attr (a := r.x) (dx := r.dx) (C := 113) (l := r.flds) ok rfl (kη _ mR) (kη _ mX) (av := r.right.av) rfl (by cases r.right; rfl) (by with_unfolding_all rfl) (by with_unfolding_all rfl) (by with_unfolding_all rfl) (by with_unfolding_all rfl) ?_
      o_new
      refine Op.fn ok ((val_ok lok hEv 6 r.right _ h2 (by decide) (by lia) h6 mk).to ?_) (by decide)
      rw [← hs1]
      refine Op.ne ok (.here pul) (.here pul) hsh hsh ⟨_, rfl, fun _ => ?_, fun q => by rw [eqv] at q; cases q⟩
      o_new
      refine ⟨nofun, fun _ => ?_⟩
      o_new
      refine Ev.callK ok (Ev.glob (v := .ref 176) ok (by with_unfolding_all rfl) ⟨176, rfl, by with_unfolding_all rfl, ?_⟩)
      o_new
      refine Ev.attr (a := r.x) (dx := r.dx) (C := 113) (l := r.flds) ok rfl (kη _ mR) (kη _ mX) (av := r.left.av) rfl (by cases r.left; rfl) (by with_unfolding_all rfl) (by with_unfolding_all rfl) (by with_unfolding_all rfl) (by with_unfolding_all rfl) ?_
      o_new
      refine Op.fn ok ((told_ok pg lok hEv hSome 6 r.left _ h1 (by decide) (by lia) h5 h7 mk (kη _ mT) (kη _ mF) hv1).to ?_) (by decide)
      o_new
      refine Op.ne ok (.here pul) (.here pul) hsh hsh ⟨_, rfl, fun _ => ?_, fun q => by rw [eqv] at q; cases q⟩
      o_new
      refine Ev.callK ok (Ev.glob (v := .ref 176) ok (by with_unfolding_all rfl) ⟨176, rfl, by with_unfolding_all rfl, ?_⟩)
      o_new
      refine Ev.attr (a := r.x) (dx := r.dx) (C := 113) (l := r.flds) ok rfl (kη _ mR) (kη _ mX) (av := r.right.av) rfl (by cases r.right; rfl) (by with_unfolding_all rfl) (by with_unfolding_all rfl) (by with_unfolding_all rfl) (by with_unfolding_all rfl) ?_
      o_new
      refine Op.fn ok ((told_ok pg lok hEv hSome 6 r.right _ h2 (by decide) (by lia) h6 h8 mk (kη _ mT) (kη _ mF) hv2).to ?_) (by decide)
      rw [← hs1]
      o_new
      refine Op.ne ok (.here pul) (.here pul) hsh hsh ⟨_, rfl, fun _ => ?_, fun q => by rw [eqv] at q; cases q⟩
      o_new
      refine ⟨nofun, fun _ => ?_⟩
      o_new
      exact ⟨lk1 rfl (lk1 rfl (lk1 rfl (lk1 rfl (lk1 rfl (lk1 rfl lk0))))), rfl⟩
    · subst h
      o_new
      refine Ev.and ?_
      refine Ev.cmp ?_
      refine Ev.attr (a := r.x) (dx := r.dx) (C := 113) (l := r.flds) ok rfl (kη _ mR) (kη _ mX) (av := AV.tup []) rfl rfl (by with_unfolding_all rfl) (by with_unfolding_all rfl) (by with_unfolding_all rfl) (by with_unfolding_all rfl) ?_
      o_new
      refine ⟨bl, ?_⟩
      refine Op.eq ok (.here rfl) (.here rfl) (.tup rfl (by decide)) (.tup rfl (by decide)) ⟨_, rfl, fun _ => ?_, fun q => by cases q⟩
      refine Ev.cmp ?_
      refine Ev.attr (a := r.x) (dx := r.dx) (C := 113) (l := r.flds) ok rfl (kη _ mR) (kη _ mX) (av := r.left.av) rfl (by cases r.left; rfl) (by with_unfolding_all rfl) (by with_unfolding_all rfl) (by with_unfolding_all rfl) (by with_unfolding_all rfl) ?_
      refine Ev.attr (a := r.x) (dx := r.dx) (C := 113) (l := r.flds) ok rfl (kη _ mR) (kη _ mX) (av := r.right.av) rfl (by cases r.right; rfl) (by with_unfolding_all rfl) (by with_unfolding_all rfl) (by with_unfolding_all rfl) (by with_unfolding_all rfl) ?_
      refine Op.ne ok (.here (AV.nb_pure (Tm.av_nb r.left h5))) (.here (AV.nb_pure (Tm.av_nb r.right h6))) (AV.sh (Tm.av_nb r.left h5) (by have := Tm.av_dep r.left; lia)) (AV.sh (Tm.av_nb r.right h6) (by have := Tm.av_dep r.right; lia)) ⟨?_, kη⟩
      have : PyData.eqv r.left.av.pd r.right.av.pd = false := by
        cases q : PyData.eqv r.left.av.pd r.right.av.pd with
        | false => rfl
        | true => exact absurd (Tm.av_inj ((AV.nb_eqv (Tm.av_nb r.left h5) (Tm.av_nb r.right h6)).mp q)) hne
      rw [this]; rfl
end
/-- a call from the caller of all -/
theorem call_top {prog : Program} {w : World} {A : Around} {s : Shared} {R : Result → Shared → Prop} {name qual : Str} {params : Arguments} {body : List Stmt} {scope : Scope} {dV kV doc pm cdv ct : Value} {an : Option Addr} {fo : Obj} {f : Addr} {args : Args} {binds : List (Str × Value)}
    (hlim : s.heap.NoLimit) (ho : s.heap.get? f = some fo) (hd : fo.data = .func (fnOf name qual params body scope dV kV doc pm an cdv ct)) (hcd : s.heap.CodeRec cdv qual) (hroom : A.depth < recursionLimit)
    (hbind : BindsTo s (fnOf name qual params body scope dV kV doc pm an cdv ct) args binds)
    (hkind : ∀ n, ∀ x ∈ binds, scope.names.lookup x.1 = some .local ∨ (scope.names.lookup x.1 = some .cell ∧ ((cellsFrom n scope.names []).lookup x.1).isSome = true))
    (h : ∀ h₁ tk, Fr s.heap s.heap.objs.size h₁ (bindL (envOfC qual scope s.heap.objs.size f cdv).kindOf binds fun _ => none) →
      (∀ n c, (cellsFrom (s.heap.objs.size + 1) scope.names []).lookup n = some c → h₁.IsCell c (bindC (envOfC qual scope s.heap.objs.size f cdv).kindOf binds (fun _ => none) n)) →
      wpAny (model prog w) (A.deeper (envOfC qual scope s.heap.objs.size f cdv)) (execs body (envOfC qual scope s.heap.objs.size f cdv))
        (fun fl s' => R (.ok (.ret (match fl with | .ret v => v | _ => .none))) s')
        (fun e s' => wpAny (model prog w) (A.deeper (envOfC qual scope s.heap.objs.size f cdv)) (leaving (envOfC qual scope s.heap.objs.size f cdv) e) (fun _ s'' => R (.error e) s'') (fun e' s'' => R (.error e') s'') s')
        { s with heap := h₁, toks := tk })
    (hco : scope.isCoroutine = false) (hgen : scope.isGenerator = false) (hk : scope.kind = .function) : codeAny (model prog w) A (.call (.ref f) args) R s := by
  refine codeAny_call_function hroom ho hd hco hgen rfl hcd (hbind _ _ _ _ ?_)
  refine wpAny_newFunctionEnv_cells hk (hkind _) fun env' he s' x => ?_
  subst he
  refine ⟨hlim.keeps x.toInCall.keep, codeAny_func ?_⟩
  refine ea2_2 (x.done) fun h₁ tk yq1 _ => ?_; subst yq1
  exact wpAny_mono (h h₁ tk ⟨x.toInCall.ns, x.toInCall.keep, Nat.le_refl _⟩ x.cell) (fun fl s' hl => hl) fun _ _ y => y
section
variable {prog : Program} {w : World} {p : Program} {loose : List Str} {mean : ExcName → Option Value} {mg mb : Str → Option Value}
theorem law_at : ∃ oc od osl name qual params body scope dV kV doc pm an cdv ct, (cx prog w p loose mean mg mb).K.lookup 222 = some ⟨oc, od, .func (fnOf name qual params body scope dV kV doc pm an cdv ct), osl⟩ ∧ qual = "law" := by
  exact ⟨_, _, _, _, _, _, _, _, _, _, _, _, _, _, _, by with_unfolding_all rfl, by decide⟩
theorem law_glob : nsIn (cx prog w p loose mean mg mb).K mainGlobals "law" = some (some (.ref 222)) := by with_unfolding_all rfl
end
section
variable {c : Cx} {n : Nat} {a : Addr} {args : List AV} {s : Shared} {Φ : AV → Store → Prop}
noncomputable abbrev topFx (s : Shared) (qual : Str) (scope : Scope) (a : Addr) (cdv : Value) : Fx :=
  { dp := callerA.depth + 1, un := callerA.units + 3, gd := some [], cn := qual, cs := scope, L := s.heap.objs.size, a := a, ccd := cdv, outer := [], h₀ := s.heap, base := s.heap, A₀ := callerA }
theorem top_enter {name qual : Str} {params : Arguments} {body : List Stmt} {scope : Scope} {dV kV doc pm cdv ct oc : Value} {an od : Option Addr} {osl : Array (Option Value)}
    (ho : c.K.lookup a = some ⟨oc, od, .func (fnOf name qual params body scope dV kV doc pm an cdv ct), osl⟩) (hcd : codeIn c.K cdv qual = true)
    (ps : List Str) (hl : args.length = ps.length) (hbind : ∀ s vs, vs.length = ps.length → BindsTo s (fnOf name qual params body scope dV kV doc pm an cdv ct) ⟨vs, []⟩ (ps.zip vs))
    (hps : ps.Nodup) (hkind : (ps.all fun y => scope.names.lookup y == some .local || scope.names.lookup y == some .cell) = true)
    (hco : scope.isCoroutine = false) (hgen : scope.isGenerator = false) (hk : scope.kind = .function) (hn : n ≤ 500)
    {vs : List Value} {R : Result → Shared → Prop} (X : c.K.In s.heap) (T : Top c.p c.loose c.mean c.mg c.mb s.heap) (r : RvAll s.heap vs args)
    (hb : FOk c (topFx s qual scope a cdv) n → Exs c (topFx s qual scope a cdv) (topFx s qual scope a cdv).env body (ps.zip args) [] (fun _ _ => False) Φ Exc.no)
    (hR : ∀ v av η' s', Rv s'.heap v av → Φ av η' → (∀ b o, s.heap.get? b = some o → s'.heap.get? b = some o) → s'.os = s.os → s'.gens = s.gens → R (.ok (.ret v)) s') :
    codeAny (model c.prog c.w) callerA (.call (.ref a) ⟨vs, []⟩) R s := by
  have hvl : vs.length = ps.length := r.length.trans hl
  have hzk : (ps.zip vs).map (·.1) = ps := List.map_fst_zip (Nat.le_of_eq hvl.symm)
  have hkd : ∀ x ∈ ps.zip vs, scope.names.lookup x.1 = some .local ∨ scope.names.lookup x.1 = some .cell := fun x hx => by
    have := List.all_eq_true.mp hkind x.1 (hzk ▸ List.mem_map_of_mem (f := (·.1)) hx)
    simpa using this
  refine call_top T.nolimit (X _ _ ho) rfl (codeRec_of X hcd) (by decide) (hbind s vs hvl)
    (fun k x hx => (hkd x hx).imp id fun q => ⟨q, cellsFrom_some _ _ _ (.inl q)⟩) (fun h₁ tk F hc => ?_) hco hgen hk
  have ok : FOk c (topFx s qual scope a cdv) n := ⟨below_caller s.heap, X, T, hk, by show callerA.depth + 1 + n < 900; have : callerA.depth = 301 := rfl; lia, by show callerA.units + 3 + 8 * n + 1000 < 9000; have : callerA.units = 4 := rfl; lia⟩
  have tk' : Tk s.heap h₁ := .of_keep F.keep
  have R₀ : Rel c (topFx s qual scope a cdv) (topFx s qual scope a cdv).env (ps.zip args) [] { s with heap := h₁, toks := tk } := by
    refine ⟨⟨_, F⟩, ⟨_, F.ns⟩, fun x av e => ?_, (fun _ _ h => nomatch h), .nil, fun x cl e => ⟨_, hc x cl e⟩, fun _ h => nomatch h⟩
    refine ea1_2 (RvAll.zip r x av e) fun v ev rv => ?_
    have hk' := hkd _ (mem_of_lookup ev)
    refine ⟨v, ?_, rv.mono tk'⟩
    rcases hk' with k | k
    · exact .inl ⟨k, _, F.ns, bindL_local _ _ _ _ (by rw [hzk]; exact hps) ev k⟩
    · refine ea1_1 (Option.isSome_iff_exists.mp (cellsFrom_some (x := x) scope.names (s.heap.objs.size + 1) [] (.inl k))) fun cl ecl => ?_
      refine .inr ⟨.inl k, cl, ecl, ?_⟩
      have := hc x cl ecl
      rwa [bindC_cell _ _ _ _ (by rw [hzk]; exact hps) ev k] at this
  show wpAny _ (topFx s qual scope a cdv).A (execs body (topFx s qual scope a cdv).env) _ _ _
  refine wpAny_mono (hb ok _ _ R₀ Esc.no) (fun fl s' hp => ?_) fun _ _ x => x
  rcases hp with ⟨_, _, _, _, _, q⟩ | ⟨v, rfl, av, ρ', η', R', t', r', k'⟩
  · exact q.elim
  · obtain ⟨_, h', tk', d', e⟩ := t'.toStpX
    refine ea1_1 (R'.fr) fun m' F' => ?_
    subst e
    exact hR v av η' _ r' k' F'.keep rfl rfl
end
theorem rules_fine {rs : List RuleD} (hr8 : rs.map (fun r => (r.name, r.left, r.right)) = rules8) : ∀ r ∈ rs, r.Fine := fun r hr => by
  have hm := (rules8_facts (r.name, r.left, r.right) (by rw [← hr8]; exact List.mem_map_of_mem (f := fun r => (r.name, r.left, r.right)) hr)).1
  unfold mkB at hm
  simp only [Bool.and_eq_true, decide_eq_true_eq, Bool.not_eq_true', List.all_eq_true] at hm
  refine ea0_2 hm fun zq1 h12 => ?_; try clear hm; refine ea0_2 zq1 fun zq2 h11 => ?_; refine ea0_2 zq2 fun zq3 h10 => ?_; refine ea0_2 zq3 fun zq4 h9 => ?_; refine ea0_2 zq4 fun zq5 h8 => ?_; refine ea0_2 zq5 fun zq6 h7 => ?_; refine ea0_2 zq6 fun zq7 h6 => ?_; refine ea0_2 zq7 fun zq8 h5 => ?_; refine ea0_2 zq8 fun zq9 h4 => ?_; refine ea0_2 zq9 fun zq10 h3 => ?_; refine ea0_2 zq10 fun h1 h2 => ?_; clear zq10; clear zq9; clear zq8; clear zq7; clear zq6; clear zq5; clear zq4; clear zq3; clear zq2; clear zq1
  exact ⟨h1, h2, h3, h4, h5, h6, h7, h8⟩
noncomputable abbrev lf (x : Nat) : Tm := .node (pqr x) []
theorem lf_leaf (x : Nat) : Leaf (lf x) := by
  refine ⟨_, rfl, ?_⟩
  unfold pqr
  split
  · decide +kernel
  · split <;> decide +kernel
/-- the last term, and the list that it stands for -/
noncomputable def tm4 (a b : List Nat) : Nat → Tm
  | 0 => tApp (shortT a) (shortT b)
  | 1 => tRev (shortT a)
  | 2 => tRev (tApp (shortT a) (shortT b))
  | _ => tApp (tRev (shortT a)) (shortT b)
noncomputable def ls4 (a b : List Nat) : Nat → List Nat
  | 0 => a ++ b
  | 1 => a.reverse
  | 2 => (a ++ b).reverse
  | _ => a.reverse ++ b
theorem ls4_len (a b : List Nat) (ha : a.length ≤ 2) (hb : b.length ≤ 2) (k : Nat) : (ls4 a b k).length ≤ 4 := by
  unfold ls4; split <;> simp <;> lia
theorem ls4_mem (a b : List Nat) (k : Nat) {P : Nat → Prop} (ha : ∀ x ∈ a, P x) (hb : ∀ x ∈ b, P x) : ∀ x ∈ ls4 a b k, P x := by
  intro x hx
  unfold ls4 at hx
  split at hx
  · exact (List.mem_append.mp hx).elim (ha x) (hb x)
  · exact ha x (List.mem_reverse.mp hx)
  · exact (List.mem_append.mp (List.mem_reverse.mp hx)).elim (ha x) (hb x)
  · exact (List.mem_append.mp hx).elim (fun h => ha x (List.mem_reverse.mp h)) (hb x)
theorem tm4_at (a b : List Nat) {k : Nat} (hk : k < 4) : ([.tup [.str "app", (shortT a).av, (shortT b).av], .tup [.str "rev", (shortT a).av], .tup [.str "rev", .tup [.str "app", (shortT a).av, (shortT b).av]], .tup [.str "app", .tup [.str "rev", (shortT a).av], (shortT b).av]] : List AV)[k]? = some (tm4 a b k).av := by
  match k, hk with
  | 0, _ => simp [tm4, Tm.av, Tm.avs]
  | 1, _ => simp [tm4, Tm.av, Tm.avs]
  | 2, _ => simp [tm4, Tm.av, Tm.avs]
  | 3, _ => simp [tm4, Tm.av, Tm.avs]
theorem lf_leaves (l : List Nat) : ∀ x ∈ l.map lf, Leaf x := fun x hx => ea1_2 (List.mem_map.mp hx) fun y _ e => e ▸ lf_leaf y
theorem turn_4 {rs : List RuleD} (hr8 : rs.map (fun r => (r.name, r.left, r.right)) = rules8) (a b : List Nat) (ha : a.length ≤ 2) (hb : b.length ≤ 2) {k : Nat} (hk : k < 4) : turn rs 60 (tm4 a b k) = some (cT ((ls4 a b k).map lf)) := by
  have h8 := first_8 rs _ hr8
  have lv := lf_leaves
  have za : (a.map lf).length ≤ 2 := by rw [List.length_map]; exact ha
  have zb : (b.map lf).length ≤ 2 := by rw [List.length_map]; exact hb
  have ea : shortT a = cT (a.map lf) := shortT_cT a
  have eb : shortT b = cT (b.map lf) := shortT_cT b
  match k, hk with
  | 0, _ =>
    show turn rs 60 (tApp (shortT a) (shortT b)) = some (cT ((a ++ b).map lf))
    rw [ea, eb, List.map_append]
    exact turn_app h8 (lv a) (lv b) (by lia) (by lia) (by lia)
  | 1, _ =>
    show turn rs 60 (tRev (shortT a)) = some (cT (a.reverse.map lf))
    rw [ea, List.map_reverse]
    exact turn_rev h8 (lv a) (by lia) (by lia)
  | 2, _ =>
    show turn rs 60 (tRev (tApp (shortT a) (shortT b))) = some (cT ((a ++ b).reverse.map lf))
    rw [ea, eb, List.map_reverse, List.map_append]
    exact turn_rev_app h8 (lv a) (lv b) (by lia) (by lia) (by decide)
  | 3, _ =>
    show turn rs 60 (tApp (tRev (shortT a)) (shortT b)) = some (cT ((a.reverse ++ b).map lf))
    rw [ea, eb, List.map_append, List.map_reverse]
    exact turn_app_rev h8 (lv a) (lv b) (by lia) (by lia) (by decide)
noncomputable def kvs3 : List (Str × AV) := [("p", .int 1), ("q", .int 2), ("r", .int 3)]
noncomputable abbrev nAV (x : Nat) : AV := .int ((x : Int) + 1)
theorem lf_val {x : Nat} (hx : x < 3) : lval (envOf2 kvs3) (lf x) = nAV x := by
  match x, hx with
  | 0, _ => exact (lval_leaf (by decide)).trans (by rfl)
  | 1, _ => exact (lval_leaf (by decide)).trans (by rfl)
  | 2, _ => exact (lval_leaf (by decide)).trans (by rfl)
theorem short_val {l : List Nat} (hl : ∀ x ∈ l, x < 3) : lval (envOf2 kvs3) (shortT l) = .tup (l.map nAV) := by
  rw [shortT_cT, lval_cT _ fun y hy => ?_]
  · rw [List.map_map]
    congr 1
    exact List.map_congr_left fun x hx => lf_val (hl x hx)
  · refine ea1_2 (List.mem_map.mp hy) fun x hx yq12 => ?_; subst yq12
    exact (congrArg AV.isNone (lf_val (hl x hx))).trans rfl
theorem val_4 {a b : List Nat} (ha : ∀ x ∈ a, x < 3) (hb : ∀ x ∈ b, x < 3) {k : Nat} (hk : k < 4) : lval (envOf2 kvs3) (tm4 a b k) = .tup ((ls4 a b k).map nAV) := by
  match k, hk with
  | 0, _ =>
    show lval (envOf2 kvs3) (tApp (shortT a) (shortT b)) = .tup ((a ++ b).map nAV)
    rw [lval_app, short_val ha, short_val hb, List.map_append]; rfl
  | 1, _ =>
    show lval (envOf2 kvs3) (tRev (shortT a)) = .tup (a.reverse.map nAV)
    rw [lval_rev, short_val ha, List.map_reverse]; rfl
  | 2, _ =>
    show lval (envOf2 kvs3) (tRev (tApp (shortT a) (shortT b))) = .tup ((a ++ b).reverse.map nAV)
    rw [lval_rev, lval_app, short_val ha, short_val hb, List.map_reverse, List.map_append]; rfl
  | 3, _ =>
    show lval (envOf2 kvs3) (tApp (tRev (shortT a)) (shortT b)) = .tup ((a.reverse ++ b).map nAV)
    rw [lval_app, lval_rev, short_val ha, short_val hb, List.map_append, List.map_reverse]; rfl
theorem tm4_fits (a b : List Nat) (ha : a.length ≤ 2) (hb : b.length ≤ 2) {k : Nat} (hk : k < 4) : (tm4 a b k).h ≤ 5 ∧ (tm4 a b k).size ≤ 14 ∧ (tm4 a b k).ok = true := by
  have sa : ∀ {a : List Nat}, a.length ≤ 2 → ∀ {q : Nat}, 2 ≤ q → Sm (shortT a) (2 * q + 1) (q + 1) := fun {a} h {q} hq => by
    have e : shortT a = cT (a.map lf) := shortT_cT a
    rw [e]
    exact .cT (lf_leaves a) (by rw [List.length_map]; exact Nat.le_trans h hq)
  match k, hk with
  | 0, _ => exact ((sa ha (Nat.le_refl _)).app (sa hb (Nat.le_refl _))).le (by decide) (by decide)
  | 1, _ => exact (sa ha (Nat.le_refl _)).rev.le (by decide) (by decide)
  | 2, _ => exact ((sa ha (Nat.le_refl _)).app (sa hb (Nat.le_refl _))).rev.le (by decide) (by decide)
  | 3, _ => exact ((sa ha (Nat.le_refl _)).rev.app (sa hb (q := 3) (by decide))).le (by decide) (by decide)
theorem cT_av_cons (x : Nat) (l : List Nat) : (cT ((x :: l).map lf)).av = .tup [.str "cons", .tup [.str (pqr x)], (cT (l.map lf)).av] := by
  rw [List.map_cons, cT]; simp [Tm.av, Tm.avs]
theorem xpqr_at {x : Nat} (hx : x < 3) : ∃ ch : Nat, (Str.ofString "xpqr").cps[((x : Int) + 1).toNat]? = some ch ∧ (⟨#[ch]⟩ : Str) = pqr x := by
  match x, hx with
  | 0, _ => exact ⟨112, by decide +kernel, by decide +kernel⟩
  | 1, _ => exact ⟨113, by decide +kernel, by decide +kernel⟩
  | 2, _ => exact ⟨114, by decide +kernel, by decide +kernel⟩
/-- what of the law's own objects stands all the while -/
structure Std (T C th dth : Addr) (cells : List Int) (spot : Nat) (η : Store) : Prop where
  t : (T, tapeL C spot) ∈ η
  c : (C, .list (iList cells)) ∈ η
  th : (th, .raw (instObj 153 dth)) ∈ η
  f : (dth, .flds []) ∈ η
theorem put_keep {a D : Addr} {ao dO x : AObj} {η : Store} (nd : (η.map (·.1)).Nodup) (m : (a, ao) ∈ η) (mD : (D, dO) ∈ η) (ne : ao ≠ dO) : (a, ao) ∈ put D x η := put_other m fun q => ne (by simp only at q; subst q; exact Store.once nd m mD)
theorem Std.dip {T C th dth : Addr} {cells : List Int} {spot : Nat} {η : Store} (h : Std T C th dth cells spot η) (nd : (η.map (·.1)).Nodup) (k : Nat) : Std T C th dth cells k (put T (tapeL C k) η) :=
  ⟨put_mem h.t, put_keep nd h.c h.t (fun q => by have := AObj.list.inj q; cases cells <;> cases this), put_keep nd h.th h.t (fun q => by cases q), put_keep nd h.f h.t fun q => by cases q⟩
theorem Std.put {T C th dth D : Addr} {cells : List Int} {spot : Nat} {η : Store} {x : AObj} (h : Std T C th dth cells spot η) (h1 : D ≠ T) (h2 : D ≠ C) (h3 : D ≠ th) (h4 : D ≠ dth) : Std T C th dth cells spot (put D x η) :=
  ⟨put_other h.t (Ne.symm h1), put_other h.c (Ne.symm h2), put_other h.th (Ne.symm h3), put_other h.f (Ne.symm h4)⟩
theorem Std.keeps {T C th dth : Addr} {cells : List Int} {spot : Nat} {η η' : Store} (h : Std T C th dth cells spot η) (k : Keeps η η') : Std T C th dth cells spot η' := ⟨k _ h.t, k _ h.c, k _ h.th, k _ h.f⟩
noncomputable def modAV : AV → AV
  | .int i => .int (i.fmod 9973)
  | a => a
noncomputable abbrev lsAV (ls : List (List Int)) : List AV := ls.map fun l => AV.tup (iList l)
theorem RulesIn.dip {T C : Addr} {spot k : Nat} {η : Store} {Ds : Addr} {rs : List RuleD} (h : RulesIn η Ds rs) (hl : rs.length = 8) (nd : (η.map (·.1)).Nodup) (mT : (T, tapeL C spot) ∈ η) : RulesIn (put T (tapeL C k) η) Ds rs :=
  ⟨put_keep nd h.list mT fun q => by have := congrArg List.length (AObj.list.inj q); simp [hl] at this, fun r hr => put_keep nd (h.inst r hr) mT (fun q => by cases q), fun r hr => put_keep nd (h.flds r hr) mT fun q => by cases q⟩
theorem lsAV_ne {ls : List (List Int)} {a : Value} {b : AV} : lsAV ls ≠ [.val a, b] := by cases ls <;> simp [lsAV]
theorem opt_same {α : Type} {l : Option α} {x y : α} {P : Prop} (e : l = some x) (ho : l = some y) (k : x = y → P) : P := k (Option.some.inj (e.symm.trans ho))
noncomputable def kvs5 (l1 l2 l3 : List Int) : List (Str × AV) := [("one", .tup (iList l1)), ("two", .tup (iList l2)), ("three", .tup (iList l3)), ("few", .int 5), ("many", .int 6)]
section
variable {prog : Program} {w : World} {p : Program} {loose : List Str} {mean : ExcName → Option Value} {mg mb : Str → Option Value}
theorem law_rest (pg : Main prog) {s : Shared} {name qual : Str} {params : Arguments} {b1 b2 b3 b4 b5 b6 b7 : Stmt} {rest : List Stmt} {scope : Scope} {dV kV doc pm cdv ct oc : Value} {an od : Option Addr} {osl : Array (Option Value)}
    (ho : (cx prog w p loose mean mg mb).K.lookup 222 = some ⟨oc, od, .func (fnOf name qual params (b1 :: b2 :: b3 :: b4 :: b5 :: b6 :: b7 :: rest) scope dV kV doc pm an cdv ct), osl⟩) (ok : FOk (cx prog w p loose mean mg mb) (topFx s qual scope 222 cdv) 100)
    {T C th dth Ds De Dl Dk : Addr} {cells : List Int} {spot : Nat} {η : Store} {rs : List RuleD} {l1 l2 l3 : List Int} (czl : cells.length ≤ 1000000) (hsp : spot ≤ 9) (S : Std T C th dth cells spot η) (hRs : RulesIn η Ds rs) (rl : rs.length = 8) (hr8 : rs.map (fun r => (r.name, r.left, r.right)) = rules8)
    (lok : (Dk == sysModules) = false) (g1 : l1.length ≤ 2) (g2 : l2.length ≤ 2) (g3 : l3.length ≤ 2) (mk : (Dk, .dict (kvs5 l1 l2 l3)) ∈ η) :
    Exs (cx prog w p loose mean mg mb) (topFx s qual scope 222 cdv) (topFx s qual scope 222 cdv).env rest [("known", .val (.ref Dk)), ("some", .val (.ref Ds)), ("elements", .val (.ref De)), ("lists", .val (.ref Dl)), ("theory", .val (.ref th)), ("tape", .val (.ref T))] η (fun _ _ => False) (fun v _ => v = .bool true) Exc.no := by
  refine opt_same (x := ⟨_, _, .func (fnOf _ _ _ (_ :: _ :: _ :: _ :: _ :: _ :: _ :: _) _ _ _ _ _ _ _ _), _⟩) (by with_unfolding_all rfl) ho fun q => ?_
  cases q
  clear ho
  have hg : ∀ q ∈ kvs5 l1 l2 l3, GoodE q.2 := fun q hq => by
    simp only [kvs5, List.mem_cons, List.not_mem_nil, or_false] at hq
    rcases hq with rfl | rfl | rfl | rfl | rfl
    · exact .inr ⟨l1, rfl, by lia⟩
    · exact .inr ⟨l2, rfl, by lia⟩
    · exact .inr ⟨l3, rfl, by lia⟩
    · exact .inl ⟨5, rfl⟩
    · exact .inl ⟨6, rfl⟩
  refine ea0_2 (envV_of hg) fun hEv hSome => ?_
  refine Exs.cons (.assign ok (.inl rfl) ?_)
  with_reducible refine Ev.nd fun nd₁ => ?_
  refine Ev.callK ok (Ev.glob (v := .ref 195) ok (by with_unfolding_all rfl) ⟨195, rfl, by with_unfolding_all rfl, ?_⟩)
  o_new
  refine Op.fn ok ((drawn_ok czl 3 spot η (by decide) (by have : dN 3 = 22 := rfl; lia) S.t S.c).mono fun v η' zz => ?_) (by decide)
  refine ea2_4 zz fun t k dt hk e1 e2 => ?_; try clear zz
  subst e1 e2
  have hk22 : k ≤ 22 := hk
  have S1 := S.dip nd₁ (spot + k)
  have hRs1 := hRs.dip (k := spot + k) rl nd₁ S.t
  have mk1 := put_keep (x := tapeL C (spot + k)) nd₁ mk S.t (fun q => by cases q)
  generalize put T (tapeL C (spot + k)) η = η₁ at S1 hRs1 mk1
  clear S hRs mk nd₁
  have dsz : t.size ≤ 15 := dt.size
  have dh : t.h ≤ 4 := dt.h
  have vok := lval_ok hEv t
  have nbl : (lval (envOf2 (kvs5 l1 l2 l3)) t).nb = true := vok.1
  have hsh : Sh (lval (envOf2 (kvs5 l1 l2 l3)) t).pd := AV.sh nbl (by have := vok.2.2.1; lia)
  have pul : (lval (envOf2 (kvs5 l1 l2 l3)) t).pure = true := AV.nb_pure nbl
  have eqv := (AV.nb_eqv nbl nbl).mpr rfl
  o_new
  refine Ev.callK ok (Ev.glob (v := .ref 176) ok (by with_unfolding_all rfl) ⟨176, rfl, by with_unfolding_all rfl, ?_⟩)
  o_new
  refine told_top pg lok hEv hSome 4 t dh (by decide) (by lia) dt.ok dt.txt mk1 S1.th S1.f ok (by decide) rfl ?_
  o_new
  refine Ev.callK ok (Ev.glob (v := .ref 169) ok (by with_unfolding_all rfl) ⟨169, rfl, by with_unfolding_all rfl, ?_⟩)
  o_new
  refine Op.fn ok ((val_ok lok hEv 4 t _ dh (by decide) (by lia) dt.ok mk1).to ?_) (by decide)
  refine Op.ne ok (.here pul) (.here pul) hsh hsh ⟨_, rfl, (fun q => by rw [eqv] at q; cases q), fun _ => ?_⟩
  o_new
  clear vok nbl hsh pul eqv
  refine Ex.assignSw ok (names := ["left", "right", "leaves"]) (List.forall_mem_cons.mpr ⟨.inl rfl, List.forall_mem_cons.mpr ⟨.inl rfl, List.forall_mem_cons.mpr ⟨.inl rfl, nofun⟩⟩⟩) ?_
  refine Ev.tuple (Evs.cons ?_)
  with_reducible refine Ev.nd fun nd₁ => ?_
  refine Ev.callK ok (Ev.glob (v := .ref 202) ok (by with_unfolding_all rfl) ⟨202, rfl, by with_unfolding_all rfl, ?_⟩)
  o_new
  refine Op.fn ok ((short_ok S1.t S1.c czl (by lia)).mono fun v η' zz => ?_) (by decide)
  refine ea1_4 zz fun a ha ha3 e1 e2 => ?_; try clear zz
  subst e1 e2
  have S2 := S1.dip nd₁ (spot + k + 1 + a.length)
  have hRs2 := hRs1.dip (k := spot + k + 1 + a.length) rl nd₁ S1.t
  generalize put T (tapeL C (spot + k + 1 + a.length)) η₁ = η₂ at S2 hRs2
  clear S1 hRs1 mk1 nd₁
  refine Evs.cons ?_
  with_reducible refine Ev.nd fun nd₁ => ?_
  refine Ev.callK ok (Ev.glob (v := .ref 202) ok (by with_unfolding_all rfl) ⟨202, rfl, by with_unfolding_all rfl, ?_⟩)
  o_new
  refine Op.fn ok ((short_ok S2.t S2.c czl (by lia)).mono fun v η' zz => ?_) (by decide)
  refine ea1_4 zz fun b hb hb3 e1 e2 => ?_; try clear zz
  subst e1 e2
  have S3 := S2.dip nd₁ (spot + k + 1 + a.length + 1 + b.length)
  have hRs3 := hRs2.dip (k := spot + k + 1 + a.length + 1 + b.length) rl nd₁ S2.t
  generalize put T (tapeL C (spot + k + 1 + a.length + 1 + b.length)) η₂ = η₃ at S3 hRs3
  clear S2 hRs2 nd₁
  refine Evs.cons (Ev.dict ok ?_)
  refine ⟨_, _, _, _, _, rfl, rfl, ?_⟩
  o_new
  refine ⟨_, _, _, _, _, rfl, rfl, ?_⟩
  o_new
  refine ⟨_, _, _, _, _, rfl, rfl, ?_⟩
  o_new
  refine ⟨rfl, by decide, by decide, fun Dk2 lok2 => ?_⟩
  have S4 := S3.keeps ((Keeps.refl η₃).cons (p := (Dk2, .dict kvs3)))
  have hRs4 := hRs3.keeps ((Keeps.refl η₃).cons (p := (Dk2, .dict kvs3)))
  have mk4 : (Dk2, AObj.dict kvs3) ∈ (Dk2, AObj.dict kvs3) :: η₃ := List.mem_cons_self
  clear S3 hRs3
  o_new
  refine ⟨bl, _, rfl, .tup, ?_⟩
  refine Exs.cons (.assign ok (.inl rfl) ?_ (by kernel_rfl))
  o_new
  refine ⟨bl, ?_⟩
  o_new
  refine ⟨bl, ?_⟩
  o_new
  refine ⟨bl, ?_⟩
  o_new
  refine ⟨bl, ?_⟩
  o_new
  refine ⟨bl, ?_⟩
  o_new
  refine ⟨bl, ?_⟩
  o_new
  refine ⟨bl, fun Dt => ?_⟩
  with_reducible refine Ev.nd fun nd₁ => ?_
  refine Ev.callK ok (Ev.glob (v := .ref 164) ok (by with_unfolding_all rfl) ⟨164, rfl, by with_unfolding_all rfl, ?_⟩)
  o_new
  have S5 := S4.keeps ((Keeps.refl _).cons (p := (Dt, .list [.tup [.str "app", (shortT a).av, (shortT b).av], .tup [.str "rev", (shortT a).av], .tup [.str "rev", .tup [.str "app", (shortT a).av, (shortT b).av]], .tup [.str "app", .tup [.str "rev", (shortT a).av], (shortT b).av]])))
  have hRs5 := hRs4.keeps ((Keeps.refl _).cons (p := (Dt, .list [.tup [.str "app", (shortT a).av, (shortT b).av], .tup [.str "rev", (shortT a).av], .tup [.str "rev", .tup [.str "app", (shortT a).av, (shortT b).av]], .tup [.str "app", .tup [.str "rev", (shortT a).av], (shortT b).av]])))
  refine Op.fn ok ((dip_ok S5.t S5.c czl (by lia) (by decide)).mono fun v η' zz => ?_) (by decide)
  refine ea0_2 zz fun e1 e2 => ?_; try clear zz
  subst e1
  obtain ⟨d0, d1⟩ := dipV_range cells (spot + k + 1 + a.length + 1 + b.length) (many := 4) (by decide)
  refine ea1_1 (Int.eq_ofNat_of_zero_le d0) fun j hj => ?_
  rw [hj] at d1 ⊢
  have hj4 : j < 4 := by lia
  have hRs6 : RulesIn η' Ds rs := by rw [e2]; exact hRs5.dip rl nd₁ S5.t
  have mk6 : (Dk2, AObj.dict kvs3) ∈ η' := by rw [e2]; exact put_keep nd₁ (List.mem_cons_of_mem _ mk4) S5.t (fun q => by cases q)
  have mD6 : (Dt, AObj.list [.tup [.str "app", (shortT a).av, (shortT b).av], .tup [.str "rev", (shortT a).av], .tup [.str "rev", .tup [.str "app", (shortT a).av, (shortT b).av]], .tup [.str "app", .tup [.str "rev", (shortT a).av], (shortT b).av]]) ∈ η' := by
    rw [e2]; exact put_keep nd₁ List.mem_cons_self S5.t (fun q => by have := congrArg List.length (AObj.list.inj q); simp at this)
  clear S5 hRs5 nd₁ e2
  refine Op.itemL (a := (tm4 a b j).av) mD6 (by lia) (by rw [Int.toNat_natCast]; exact tm4_at a b hj4) bl ?_ fun _ _ => ⟨_, rfl⟩
  refine ea0_3 (tm4_fits a b ha hb hj4) fun f1 f2 f3 => ?_
  have hV := val_4 ha3 hb3 hj4
  have hVl := ls4_len a b ha hb j
  have hV3 := ls4_mem a b j ha3 hb3
  have hT := turn_4 hr8 a b ha hb hj4
  generalize ls4 a b j = V at hV hVl hV3 hT
  generalize tm4 a b j = tm at f1 f2 f3 hV hT ⊢
  have hE3 : EnvV (envOf2 kvs3) 5 1000 := (envV_of (kvs := kvs3) fun q hq => by
    simp only [kvs3, List.mem_cons, List.not_mem_nil, or_false] at hq
    rcases hq with rfl | rfl | rfl
    · exact .inl ⟨1, rfl⟩
    · exact .inl ⟨2, rfl⟩
    · exact .inl ⟨3, rfl⟩).1
  o_new
  refine Ex.assign ok (.inl rfl) ?_
  o_new
  refine ⟨bl, ?_⟩
  o_new
  refine Ex.forL [("due", .tup [.str "nil"]), ("term", tm.av), ("some", .val (.ref Ds))] (lk1 rfl (lk1 rfl (lk1 rfl lk0))) ?_
  refine Ev.sub ?_
  refine Ev.callK ok (Ev.glob (v := .ref 169) ok (by with_unfolding_all rfl) ⟨169, rfl, by with_unfolding_all rfl, ?_⟩)
  o_new
  refine Op.fn ok ((val_ok lok2 hE3 5 tm _ f1 (by decide) (by lia) f3 mk6).to ?_) (by decide)
  rw [hV]
  refine Ev.sliceRev fun D' tk => ?_
  refine Op.sliceTRev (l := V.map nAV) (by rw [List.length_map]; lia) ⟨_, _, _, .tup, fun i ρ η'' => η'' = η' ∧ ρ = ([("due", (cT (((V.reverse.take i).reverse).map lf)).av), ("term", tm.av), ("some", .val (.ref Ds))] : Locals), ⟨rfl, by simp [cT, Tm.av, Tm.avs]⟩, fun i ρ η'' _ => .none, fun i d hd ρ₁ η₁ hI => ?_, fun ρ₁ η₁ hI => ?_⟩ fun _ _ => ⟨_, rfl⟩
  · refine ea0_2 hI fun yq1 yq2 => ?_; try clear hI; subst yq1; subst yq2
    rw [← List.map_reverse, List.getElem?_map] at hd
    refine ea1_2 (Option.map_eq_some_iff.mp hd) fun x hx yq3 => ?_; subst yq3
    have hx3 : x < 3 := hV3 x (List.mem_reverse.mp (List.mem_of_getElem? hx))
    refine ea1_2 (xpqr_at hx3) fun ch hch hpq => ?_
    refine ⟨_, .name ok (.inl rfl), ?_⟩
    refine Exs.cons (.assign ok (.inl rfl) ?_ (by kernel_rfl))
    o_new
    refine Op.itemS (ch := ch) (by lia) hch (by decide) ?_ fun _ _ => ⟨_, rfl⟩
    rw [hpq]
    o_new
    refine ⟨bl, ?_⟩
    o_new
    refine ⟨bl, ?_⟩
    o_new
    refine ⟨[("due", (cT (((V.reverse.take (i + 1)).reverse).map lf)).av), ("term", tm.av), ("some", .val (.ref Ds))], ?_, rfl, rfl⟩
    rw [take_snoc hx, List.reverse_append]
    show Sub [("due", (cT ((x :: (V.reverse.take i).reverse).map lf)).av), ("term", tm.av), ("some", .val (.ref Ds))] _
    rw [cT_av_cons]
    exact lk1 rfl (lk1 rfl (lk1 rfl lk0))
  · refine ea0_2 hI fun yq4 yq5 => ?_; try clear hI; subst yq4; subst yq5
    have e : ((V.reverse.take ((V.map nAV).reverse).length).reverse) = V := by
      rw [List.length_reverse, List.length_map, ← List.length_reverse (as := V), List.take_length, List.reverse_reverse]
    rw [e]
    obtain ⟨c2, _, c3⟩ := (Sm.cT (lf_leaves V) (Nat.le_refl _)).le (Nat.le_refl _) (Nat.le_refl _)
    rw [List.length_map] at c2
    generalize cT (V.map lf) = u at c2 c3 hT
    have nbu := Tm.av_nb u c3
    have shu : Sh u.av.pd := AV.sh nbu (by rw [Tm.av_dep]; lia)
    refine Exs.cons (.ret (Ev.cmp ?_))
    refine Ev.callK ok (Ev.glob (v := .ref 217) ok (by with_unfolding_all rfl) ⟨217, rfl, by with_unfolding_all rfl, ?_⟩)
    o_new
    refine Op.fn ok ((turn_ok (rules_fine hr8) (by lia) 60 tm u _ hT (by decide) hRs6).to ?_) (by decide)
    o_new
    refine Op.eq ok (.here (AV.nb_pure nbu)) (.here (AV.nb_pure nbu)) shu shu ?_
    rw [(AV.nb_eqv nbu nbu).mpr rfl]
end
section
variable {prog : Program} {w : World} {p : Program} {loose : List Str} {mean : ExcName → Option Value} {mg mb : Str → Option Value}
theorem law_ok (pg : Main prog) {s : Shared} (TT : Top p loose mean mg mb s.heap) (X : (topK w.params).In s.heap) {sl : Addr} {vs₀ : List Value} {is : List Int} (hL : s.heap.IsList sl vs₀.toArray) (hI : IntsAre vs₀ is) (hz : is.length ≤ 63)
    {R : Result → Shared → Prop} (hR : ∀ s', (∀ b o, s.heap.get? b = some o → s'.heap.get? b = some o) → s'.os = s.os → s'.gens = s.gens → R (.ok (.ret (.bool true))) s') :
    codeAny (model prog w) callerA (.call (.ref 222) ⟨[.ref sl], []⟩) R s := by
  refine top_enter (c := cx prog w p loose mean mg mb) (n := 100) (body := [_, _, _, _, _, _, _, _, _, _, _, _, _, _]) (args := [.val (.ref sl)]) (Φ := fun v _ => v = .bool true) (by with_unfolding_all rfl) (by with_unfolding_all rfl) ["script"] rfl (fun s _ h => by apply len1.on h; intro _; exact .of_eq rfl) (by decide) (by decide) rfl rfl rfl (by decide) X TT (.cons (.val _) .nil) (fun ok => ?_)
    (fun v av η' s' r e k1 k2 k3 => by subst e; cases r; exact hR s' k1 k2 k3)
  refine Exs.cons (.assignTup ok (.inr rfl) (.inr rfl) ?_)
  o_new
  refine Ev.comp (ρ' := []) ok rfl (by decide) rfl (by decide) (by decide) ?hρ ?_
  case hρ => exact fun C => lk0
  o_new
  refine Ev.sliceUpto fun D' tk => ?_
  refine Op.sliceOld (k := 40) hL hI (by lia) (fun D1 => ?_) fun _ _ => ⟨_, rfl⟩
  refine ⟨_, _, _, .list (a := D1), .some (by repeat (first | exact List.mem_cons_self | refine List.mem_cons_of_mem _ ?_)), by simp; lia, fun C1 => ?_⟩
  refine .map modAV (.some (by repeat (first | exact List.mem_cons_self | refine List.mem_cons_of_mem _ ?_))) (fun d hd => ?_) ?_
  · refine ea1_2 (List.mem_map.mp hd) fun i _ yq2 => ?_; subst yq2
    refine ⟨_, .name rfl rfl, ?_⟩
    o_new
    refine Ev.callTy (Ev.bltn (v := .type "int") ok (by with_unfolding_all rfl) (by kernel_rfl) (by decide) ⟨_, rfl, ?_⟩)
    o_new
    refine Op.intI ?_
    o_new
    exact Op.mod (by decide) ⟨rfl, rfl⟩
  intro C
  have ec : [] ++ ((is.take 40).map AV.int).map modAV = iList ((is.take 40).map fun i => i.fmod 9973) := by rw [List.nil_append, List.map_map, iList, List.map_map]; rfl
  rw [ec]
  have czl : ((is.take 40).map fun i => i.fmod 9973).length ≤ 1000000 := by rw [List.length_map, List.length_take]; lia
  generalize ((is.take 40).map fun i => i.fmod 9973) = cells at czl
  clear ec
  o_new
  refine ⟨bl, fun T => ?_⟩
  refine Evs.cons ?_
  refine Ev.callK0 ok ?_
  refine Ev.glob (v := .ref 153) ok (by with_unfolding_all rfl) ?_
  refine ⟨153, rfl, by with_unfolding_all rfl, ?_⟩
  refine Op.make0 ok (by with_unfolding_all rfl) (by with_unfolding_all rfl) fun th dth _ => ?_
  o_new
  refine ⟨bl, _, _, .tup, ?_⟩
  o_new
  refine Ex.assign ok (.inr rfl) ?_
  o_new
  refine ⟨bl, fun Dl => ?_⟩
  with_reducible refine Exs.nd fun nd0 => ?_
  obtain ⟨hD1, hD2, hD3, hD4⟩ : Dl ≠ T ∧ Dl ≠ C ∧ Dl ≠ th ∧ Dl ≠ dth := by
    have := (List.nodup_cons.mp nd0).1
    simp only [List.map_cons, List.mem_cons, not_or] at this
    exact ⟨this.2.2.1, this.2.2.2.1, this.1, this.2.1⟩
  have S0 : Std T C th dth cells 0 ((Dl, .list []) :: (th, .raw (instObj 153 dth)) :: (dth, .flds []) :: (T, .list [.val (.ref C), .int 0]) :: (C, .list (iList cells)) :: [(D1, .list ((is.take 40).map .int))]) := ⟨(by repeat (first | exact List.mem_cons_self | refine List.mem_cons_of_mem _ ?_)), (by repeat (first | exact List.mem_cons_self | refine List.mem_cons_of_mem _ ?_)), (by repeat (first | exact List.mem_cons_self | refine List.mem_cons_of_mem _ ?_)), (by repeat (first | exact List.mem_cons_self | refine List.mem_cons_of_mem _ ?_))⟩
  o_new
  refine Ex.forI [("lists", .val (.ref Dl)), ("theory", .val (.ref th)), ("tape", .val (.ref T))] (lk1 rfl (lk1 rfl (lk1 rfl lk0))) ?_
  refine Ev.callTy (Ev.bltn (v := .type "range") ok (by with_unfolding_all rfl) (by kernel_rfl) (by decide) ⟨_, rfl, ?_⟩)
  o_new
  refine Op.range1 fun rg t1 t2 t3 => ?_
  refine ⟨_, _, _, .range0 (n := 3) (by decide), fun i η' => ∃ (ls : List (List Int)) (spot : Nat), ls.length = i ∧ (∀ l ∈ ls, l.length ≤ 2) ∧ spot ≤ 3 * i ∧ Std T C th dth cells spot η' ∧ (Dl, .list (lsAV ls)) ∈ η' ∧ (rg, AObj.raw (rangeO 0 ((3 : Nat) : Int) t1 t2 t3)) ∈ η',
    ⟨[], 0, rfl, (fun _ h => nomatch h), Nat.le_refl _, S0.keeps (Keeps.refl _).cons, (by repeat (first | exact List.mem_cons_self | refine List.mem_cons_of_mem _ ?_)), (by repeat (first | exact List.mem_cons_self | refine List.mem_cons_of_mem _ ?_))⟩, fun i η' zz => ea2_6 zz fun _ _ _ _ _ _ _ h => .some h, fun i d hd η₁ hI => ?_, fun η₁ hI => ?_⟩
  · refine ea2_6 hI fun ls spot hl hls hsp S mL mr => ?_; try clear hI
    have hi : i < 3 := by
      have := (List.getElem?_eq_some_iff.mp hd).1
      rwa [List.length_map, List.length_range] at this
    refine ⟨_, .name ok (.inl rfl), ?_⟩
    refine Exs.cons (Ex.expr ?_)
    refine Ev.methB ?_
    o_new
    refine ⟨_, _, .list mL F.slot_list_append F.type_list_append, ?_⟩
    refine Evs.cons ?_
    with_reducible refine Ev.nd fun nd₁ => ?_
    refine Ev.callTy (Ev.bltn (v := .type "tuple") ok (by with_unfolding_all rfl) (by kernel_rfl) (by decide) ⟨_, rfl, ?_⟩)
    o_new
    refine Ev.comp (ρ' := [("tape", .val (.ref T))]) ok rfl (by decide) rfl (by decide) (by decide) ?hρ ?_
    case hρ => exact fun C => lk1 ⟨rfl, rfl, rfl, rfl⟩ lk0
    refine Ev.callTy (Ev.bltn (v := .type "range") ok (by with_unfolding_all rfl) (by kernel_rfl) (by decide) ⟨_, rfl, ?_⟩)
    refine Evs.cons ?_
    refine Ev.callK ok (Ev.glob (v := .ref 164) ok (by with_unfolding_all rfl) ⟨164, rfl, by with_unfolding_all rfl, ?_⟩)
    o_new
    refine Op.fn ok ((dip_ok S.t S.c czl (by lia) (by decide)).to ?_) (by decide)
    obtain ⟨d0, d1⟩ := dipV_range cells spot (many := 3) (by decide)
    refine ea1_1 (Int.eq_ofNat_of_zero_le d0) fun m hm => ?_
    rw [hm] at d1 ⊢
    have hm3 : m < 3 := by lia
    have S1 := S.dip nd₁ (spot + 1)
    have mL1 := put_keep (x := tapeL C (spot + 1)) nd₁ mL S.t (fun q => lsAV_ne (AObj.list.inj q))
    have mr1 := put_keep (x := tapeL C (spot + 1)) nd₁ mr S.t (fun q => by cases q)
    generalize put T (tapeL C (spot + 1)) η₁ = η₂ at S1 mL1 mr1
    o_new
    refine Op.range1 fun r2 u1 u2 u3 => ?_
    refine ⟨_, _, _, .range0 (n := m) (by lia), .some (by repeat (first | exact List.mem_cons_self | refine List.mem_cons_of_mem _ ?_)), by simp; lia, fun C2 => ?_⟩
    refine .inv (fun j acc η' => ∃ l : List Int, acc = iList l ∧ l.length = j ∧ Std T C th dth cells (spot + 1 + j) η' ∧ (Dl, .list (lsAV ls)) ∈ η' ∧ (rg, AObj.raw (rangeO 0 ((3 : Nat) : Int) t1 t2 t3)) ∈ η' ∧ (r2, AObj.raw (rangeO 0 (m : Int) u1 u2 u3)) ∈ η') _ (fun j acc η' ⟨_, _, _, _, _, _, h⟩ => .some h) (fun j d acc η₃ hd' hJ => ?_) (fun acc η₃ hJ => ?_) ⟨[], rfl, rfl, S1.keeps (Keeps.refl _).cons, List.mem_cons_of_mem _ mL1, List.mem_cons_of_mem _ mr1, (by repeat (first | exact List.mem_cons_self | refine List.mem_cons_of_mem _ ?_))⟩
    · refine ea1_6 hJ fun l yq3 hl' S2 mL2 mr2 mq2 => ?_; try clear hJ; subst yq3
      have hj : j < m := by
        have := (List.getElem?_eq_some_iff.mp hd').1
        rwa [List.length_map, List.length_range] at this
      refine ⟨_, .name rfl rfl, ?_⟩
      with_reducible refine Ev.nd fun nd₂ => ?_
      refine Ev.callK ok (Ev.glob (v := .ref 164) ok (by with_unfolding_all rfl) ⟨164, rfl, by with_unfolding_all rfl, ?_⟩)
      o_new
      refine Op.fn ok ((dip_ok S2.t S2.c czl (by lia) (by decide)).to ?_) (by decide)
      exact ⟨l ++ [dipV cells (spot + 1 + j) 10], by simp [iList], by rw [List.length_append, hl']; rfl, S2.dip nd₂ _, put_keep nd₂ mL2 S2.t (fun q => lsAV_ne (AObj.list.inj q)), put_keep nd₂ mr2 S2.t (fun q => by cases q), put_keep nd₂ mq2 S2.t (fun q => by cases q)⟩
    · refine ea1_6 hJ fun l yq4 hl' S2 mL2 mr2 _ => ?_; try clear hJ; subst yq4
      rw [List.length_map, List.length_range] at hl' S2
      subst hl'
      intro D2
      o_new
      refine Op.tupleL (a := iList l) (by repeat (first | exact List.mem_cons_self | refine List.mem_cons_of_mem _ ?_)) (by rw [List.length_map]; lia) ?_
      o_new
      refine Op.nd fun nd₃ => ?_
      refine Op.append (Up.put nd₃ (List.mem_cons_of_mem _ mL2)) (by rw [List.length_map]; lia) ?_
      o_new
      refine ⟨lk1 rfl (lk1 rfl (lk1 rfl lk0)), ls ++ [l], spot + 1 + l.length, by rw [List.length_append, hl]; rfl, fun l' h' => ?_, by lia, (S2.keeps (Keeps.refl _).cons).put hD1 hD2 hD3 hD4, ?_, ?_⟩
      · rcases List.mem_append.mp h' with h | h
        · exact hls l' h
        · obtain rfl := List.mem_singleton.mp h; lia
      · have := put_mem (o' := .list (lsAV ls ++ [.tup (iList l)])) (List.mem_cons_of_mem (D2, AObj.list (iList l)) mL2)
        have e : lsAV (ls ++ [l]) = lsAV ls ++ [.tup (iList l)] := by simp [lsAV]
        rw [e]; exact this
      · exact put_keep nd₃ (List.mem_cons_of_mem _ mr2) (List.mem_cons_of_mem _ mL2) (fun q => by cases q)
  · refine ea2_6 hI fun ls spot hl hls hsp S mL _ => ?_; try clear hI
    rw [List.length_map, List.length_range] at hl hsp
    refine ea3_1 (len3 hl) fun l1 l2 l3 yq5 => ?_; subst yq5
    have g1 := hls l1 (by simp)
    have g2 := hls l2 (by simp)
    have g3 := hls l3 (by simp)
    clear hls hl nd0
    refine Exs.cons (.assignTup ok (.inr rfl) (.inl rfl) ?_)
    o_new
    refine Op.itemL (a := .tup (iList l1)) mL (by decide) rfl bl ?_ fun _ _ => ⟨_, rfl⟩
    o_new
    refine ⟨bl, fun De => ?_⟩
    refine Evs.cons ?_
    refine Ev.methK0 ok ?_
    o_new
    refine ⟨145, _, .inst ok (List.mem_cons_of_mem _ S.th) (List.mem_cons_of_mem _ S.f) rfl (by with_unfolding_all rfl) (by with_unfolding_all rfl) (by with_unfolding_all rfl), by with_unfolding_all rfl, ?_⟩
    refine Op.fn ok ((rules_ok (.val (.ref th)) _).mono fun v η' zz => ?_) (by decide)
    refine ea2_4 zz fun Ds rs e1 hRs kR hr8 => ?_; try clear zz
    subst e1
    have S1 : Std T C th dth cells spot η' := (S.keeps (Keeps.refl _).cons).keeps kR
    have mL1 := kR _ (List.mem_cons_of_mem _ mL)
    have mE1 : (De, AObj.list [.int 5, .tup (iList l1)]) ∈ η' := kR _ List.mem_cons_self
    clear kR S mL
    have rl : rs.length = 8 := by have := congrArg List.length hr8; rw [List.length_map] at this; exact this.trans rfl
    have rn : rs.map (·.name) = rules8.map (·.1) := by rw [← hr8, List.map_map]; rfl
    o_new
    refine ⟨bl, _, _, .tup, ?_⟩
    o_new
    refine Ev.callB (Ev.bltn (v := .builtin "len") ok (by with_unfolding_all rfl) (by kernel_rfl) (by decide) ⟨_, rfl, ?_⟩)
    o_new
    refine Ev.callTy (Ev.bltn (v := .type "set") ok (by with_unfolding_all rfl) (by kernel_rfl) (by decide) ⟨_, rfl, ?_⟩)
    o_new
    refine Ev.comp (ρ' := []) ok rfl (by decide) rfl (by decide) (by decide) (fun C => lk0) ?_
    o_new
    refine ⟨_, _, _, .list (a := Ds), .some hRs.list, by rw [List.length_map]; lia, fun C3 => ?_⟩
    refine .inv (fun j acc η'' => acc = ((rs.take j).map (·.name)).map .str ∧ η'' = η') _ (fun j acc η'' h => by rw [h.2]; exact .some hRs.list) (fun j d acc η₃ hd' hJ => ?_) (fun acc η₃ hJ => ?_) ⟨rfl, rfl⟩
    · refine ea0_2 hJ fun yq6 yq7 => ?_; try clear hJ; subst yq6; subst yq7
      rw [List.getElem?_map] at hd'
      refine ea1_2 (Option.map_eq_some_iff.mp hd') fun r hr' yq8 => ?_; subst yq8
      have hrm := List.mem_of_getElem? hr'
      refine ⟨_, .name rfl rfl, ?_⟩
      refine Ev.attr (a := r.x) (dx := r.dx) (C := 113) (l := r.flds) ok rfl (hRs.inst r hrm) (hRs.flds r hrm) (av := .str r.name) rfl rfl (by with_unfolding_all rfl) (by with_unfolding_all rfl) (by with_unfolding_all rfl) (by with_unfolding_all rfl) ?_
      exact ⟨by rw [take_snoc hr', List.map_append, List.map_append]; rfl, rfl⟩
    · refine ea0_2 hJ fun yq9 yq10 => ?_; try clear hJ; subst yq9; subst yq10
      rw [List.length_map, List.take_length, rn]
      intro D2
      o_new
      refine Op.setL (xs := rules8.map (·.1)) (by repeat (first | exact List.mem_cons_self | refine List.mem_cons_of_mem _ ?_)) (by decide) fun D3 => ?_
      o_new
      refine Op.lenSet (by repeat (first | exact List.mem_cons_self | refine List.mem_cons_of_mem _ ?_)) ?_
      have e8 : (dd (rules8.map (·.1))).length = 8 := by decide +kernel
      rw [e8]
      o_new
      refine Ev.callB (Ev.bltn (v := .builtin "len") ok (by with_unfolding_all rfl) (by kernel_rfl) (by decide) ⟨_, rfl, ?_⟩)
      o_new
      have kk : Keeps η₃ ((D3, AObj.set (rules8.map (·.1)) 8) :: (D2, AObj.list ((rules8.map (·.1)).map .str)) :: η₃) := (Keeps.refl _).cons.cons
      refine Op.lenL (kk _ hRs.list) (by rw [List.length_map]; lia) ?_
      rw [List.length_map, rl]
      refine Op.ne ok (.here rfl) (.here rfl) .int .int ⟨_, rfl, fun _ => ?_, fun q => by cases q⟩
      o_new
      refine Ev.callB (Ev.bltn (v := .builtin "len") ok (by with_unfolding_all rfl) (by kernel_rfl) (by decide) ⟨_, rfl, ?_⟩)
      o_new
      refine Op.lenL (kk _ hRs.list) (by rw [List.length_map]; lia) ?_
      rw [List.length_map, rl]
      o_new
      refine Op.eq ok (.here rfl) (.here rfl) .int .int ⟨_, rfl, fun _ => ?_, fun q => by cases q⟩
      o_new
      refine ⟨nofun, fun _ => ?_⟩
      o_new
      have S2 := S1.keeps kk
      have mL2 := kk _ mL1
      have mE2 := kk _ mE1
      have hRs2 := hRs.keeps kk
      clear S1 mL1 mE1 hRs
      generalize (D3, AObj.set (rules8.map (·.1)) 8) :: (D2, AObj.list ((rules8.map (·.1)).map .str)) :: η₃ = η₄ at S2 mL2 mE2 hRs2
      refine Ev.comp (ρ' := [("theory", .val (.ref th)), ("lists", .val (.ref Dl)), ("elements", .val (.ref De))]) ok rfl (by decide) rfl (by decide) (by decide) ?hρ ?_
      case hρ => exact fun C => lk1 ⟨rfl, rfl, rfl, rfl⟩ (lk1 ⟨rfl, rfl, rfl, rfl⟩ (lk1 ⟨rfl, rfl, rfl, rfl⟩ lk0))
      o_new
      refine ⟨_, _, _, .list (a := Ds), .some hRs2.list, by rw [List.length_map]; lia, fun C4 => ?_⟩
      refine .invT (fun j acc η'' => acc = [] ∧ η'' = η₄) _ (fun j acc η'' h => by rw [h.2]; exact .some hRs2.list) (fun j d acc η₅ hd' hJ => ?_) (fun acc η₅ hJ => ?_) ⟨rfl, rfl⟩
      · refine ea0_2 hJ fun yq11 yq12 => ?_; try clear hJ; subst yq11; subst yq12
        rw [List.getElem?_map] at hd'
        refine ea1_2 (Option.map_eq_some_iff.mp hd') fun r hr' yq13 => ?_; subst yq13
        have hrm := List.mem_of_getElem? hr'
        refine ⟨_, .name rfl rfl, ?_⟩
        o_new
        refine Ev.callK ok (Ev.glob (v := .ref 188) ok (by with_unfolding_all rfl) ⟨188, rfl, by with_unfolding_all rfl, ?_⟩)
        o_new
        refine Op.fn ok ((right_ok pg (lists := lsAV [l1, l2, l3]) (elements := [.int 5, .tup (iList l1)]) ?_ ?_ (Nat.le_refl 3) (Nat.le_succ 2) r ?_ _ S2.th S2.f mL2 mE2 (hRs2.inst r hrm) (hRs2.flds r hrm)).mono fun v η' ⟨e1, e2⟩ => ?_) (by decide)
        · intro v hv
          simp only [lsAV, List.map_cons, List.map_nil, List.mem_cons, List.not_mem_nil, or_false] at hv
          rcases hv with rfl | rfl | rfl
          · exact ⟨l1, rfl, by lia⟩
          · exact ⟨l2, rfl, by lia⟩
          · exact ⟨l3, rfl, by lia⟩
        · intro v hv
          simp only [List.mem_cons, List.not_mem_nil, or_false] at hv
          rcases hv with rfl | rfl
          · exact .inl ⟨5, rfl⟩
          · exact .inr ⟨l1, rfl, by lia⟩
        · rw [← hr8]; exact List.mem_map_of_mem (f := fun r => (r.name, r.left, r.right)) hrm
        · subst e1 e2
          o_new
          exact ⟨.some hRs2.list, nofun, fun _ => ⟨rfl, rfl⟩⟩
      · refine ea0_2 hJ fun yq14 yq15 => ?_; try clear hJ; subst yq14; subst yq15
        intro D4
        o_new
        refine ⟨bl, fun D5 => ?_⟩
        refine Op.ne ok (.list (l := []) (by repeat (first | exact List.mem_cons_self | refine List.mem_cons_of_mem _ ?_)) rfl) (.list (l := []) (by repeat (first | exact List.mem_cons_self | refine List.mem_cons_of_mem _ ?_)) rfl) (.list rfl (by decide)) (.list rfl (by decide)) ⟨_, rfl, (fun q => by cases q), fun _ => ?_⟩
        o_new
        refine Ex.assign ok (.inl rfl) ?_
        refine Ev.dict ok ?_
        have k5 : Keeps η₅ ((D5, AObj.list []) :: (D4, AObj.list []) :: η₅) := (Keeps.refl _).cons.cons
        refine ⟨_, _, _, _, _, rfl, rfl, ?_⟩
        o_new
        refine Op.itemL (a := .tup (iList l1)) (k5 _ mL2) (by decide) rfl bl ?_ fun _ _ => ⟨_, rfl⟩
        refine ⟨_, _, _, _, _, rfl, rfl, ?_⟩
        o_new
        refine Op.itemL (a := .tup (iList l2)) (k5 _ mL2) (by decide) rfl bl ?_ fun _ _ => ⟨_, rfl⟩
        refine ⟨_, _, _, _, _, rfl, rfl, ?_⟩
        o_new
        refine Op.itemL (a := .tup (iList l3)) (k5 _ mL2) (by decide) rfl bl ?_ fun _ _ => ⟨_, rfl⟩
        refine ⟨_, _, _, _, _, rfl, rfl, ?_⟩
        o_new
        refine ⟨_, _, _, _, _, rfl, rfl, ?_⟩
        o_new
        refine ⟨rfl, by simp only [List.nil_append, List.cons_append, List.map_cons, List.map_nil]; decide, by simp, fun Dk lok => ?_⟩
        exact law_rest pg (by with_unfolding_all rfl) ok czl (by lia) (S2.keeps (k5.trans (Keeps.refl _).cons)) (hRs2.keeps (k5.trans (Keeps.refl _).cons)) rl hr8 lok (l1 := l1) (l2 := l2) (l3 := l3) g1 g2 g3 List.mem_cons_self
end
end Mine
end
open PySem PySem.W PyProof.Rows
theorem Mine.law_main : Mine.Main PySem.Challenge.pw_pq0033_01 := by
  constructor
  · kernel_rfl
  · kernel_rfl
set_option maxHeartbeats 8000000 in
theorem PySem.Challenge.cw_pq0033_01_holds : PySem.Challenge.rw_pq0033_01.Holds := by
  refine holds_law Mine.said fun said' => ?_
  refine PySem.W.holds_open (q := Mine.topView) (loose := Mine.topLoose) (Xt := Mine.topXt) (XP := XL Mine.topView Mine.topLv) (Yf := Mine.topHook.obs) (Ya := Mine.topHook.val) (YP := Mine.topHook.says) (N := 3708) Mine.left (Hook.of Mine.topHook) (Hook.keeps Mine.topHook) (fun s e => xl_of s (Bool.and_eq_true_iff.mp e).1) XL.keeps (by rfl) (by rfl) (by rfl) (fun s e => recFacts_of (Bool.and_eq_true_iff.mp e).2) (by rfl) (by first | assumption | decide +kernel) (by decide +kernel) ⟨rfl, rfl, rfl, rfl, rfl, by decide +kernel⟩ ?hw ?hc
  case hw => w_witness2
  case hc =>
    intro w s₀ s₁ mg mb G Y fa o pm cd doc dV kV ho hd hcd hD hmg hg args vals as hpre hlay hrd hwl hlo
    have KX : (Mine.topK w.params).In s₁.heap := kIn_of Y
    refine Ground.open G ?_
    intro T B D TE TW
    clear ho hd hcd hD D TE TW B
    have e222 := (mg_of KX T.g (Mine.law_glob (prog := PySem.Challenge.pw_pq0033_01) (p := PySem.Challenge.pw_pq0033_01) (loose := []) (mean := fun _ => none) (mg := mg) (mb := mb) (w := w))).symm.trans hmg
    clear hmg
    obtain rfl : (222 : Nat) = fa := by cases e222; rfl
    clear e222 Y
    wrow_args hpre hlay hrd hwl hlo
    refine enter_call (Mine.law_ok Mine.law_main T KX (by assumption) (by assumption) (by lia) fun s' k1 k2 k3 => ?_)
    refine GoodW.toG ⟨.inl ⟨_, _, _, rfl, fun cls => rfl, .bool true, ?_, unshared_nil⟩, k1, k2, k3.trans hg⟩
    kernel_rfl
