import PyProof.Rows.All
import Wide.All
import OpenK.AllK
import Wide.FinOn
import KE.KTreeF
import Lean
import PySem.Challenge.RW_qd0065_01
set_option Elab.async false
set_option maxRecDepth 100000
set_option maxHeartbeats 8000000
set_option autoImplicit false
open PySem PySem.W PyProof.Rows PySem.Spec PySem.Calls
namespace Mine
-- H1
noncomputable abbrev PG : Program := PySem.Challenge.rw_qd0065_01.row.prog
abbrev sO (x : String) : Str := Str.ofString x
noncomputable def de (P : Params) (x : String) (t : Nat) (v : Value) : DictEntry := ⟨PyData.keyHash P (sO x), .str (sO x) t, v⟩
noncomputable def fnT (i : Nat) : Stmt := PG.main.body.getD i default
noncomputable def memOf : Stmt → Nat → Stmt
  | .ClassDef _ _ _ b _ _ _ _ _ _ _, j => b.getD j default
  | _, _ => default
noncomputable def parOf : Stmt → Arguments
  | .FunctionDef _ a _ _ _ _ _ _ _ _ => a
  | _ => default
noncomputable def bodOf : Stmt → List Stmt
  | .FunctionDef _ _ b _ _ _ _ _ _ _ => b
  | _ => default
noncomputable def scoOf : Stmt → Scope
  | .FunctionDef _ _ _ _ _ _ s _ _ _ => s
  | _ => default
def ho11 : Obj := { cls := .type "tuple", data := .seq #[] }
def ho12 : Obj := { cls := .none, data := .fields #[] }
def ho13 : Obj := { cls := .type "code", data := .fields #[.str (Str.ofString "<module>") 182, .str (Str.ofString "<module>") 183, .str (Str.ofString "/claim/cut.py") 184, .int 1 0, .int 0 0, .int 0 0, .int 0 0, .int 0 0, .ref 11, .bool false, .int 181 0, .ref 12, .none, .none, .none, .none, .int 185 0, .int 1 0, .str (Str.ofString "/claim/cut.py") 186] }
def ho14 : Obj := { cls := .type "frame", slots := #[some (.ref 13), some (.ref 3), some (.ref 3), none, some (.str (Str.ofString "__main__") 164), none, some (.ref 0)] }
noncomputable def treeA (P : Params) : BT :=
  .node (boot_o_0 P)
    (.node (boot_o_1 P) (.node (boot_o_3 P) (.node (boot_o_7 P) .nil .nil) (.node ho11 .nil .nil)) (.node (boot_o_5 P) (.node (boot_o_9 P) .nil .nil) (.node ho13 .nil .nil)))
    (.node (boot_o_2 P) (.node (boot_o_4 P) (.node (boot_o_8 P) .nil .nil) (.node ho12 .nil .nil)) (.node (boot_o_6 P) (.node (boot_o_10 P) .nil .nil) (.node ho14 .nil .nil)))
noncomputable def upd1 (P : Params) : List (Nat × Obj) :=
  [(2, (Obj.mk .none none (.dict #[(de P "type.__subclasses__.Exception.0" 230 (.int 46 0)), (de P "type.__subclasses__.Exception.n" 231 (.int 1 0))] 2) #[])),
   (3, (Obj.mk (.type "dict") none (.dict #[(de P "__name__" 165 (.str (sO "grammarmill.charset") 250)), (de P "__doc__" 166 .none), (de P "__package__" 167 .none), (de P "__loader__" 168 (.builtin "__main__.__loader__#opaque")), (de P "__spec__" 169 .none), (de P "__annotations__" 170 (.ref 6)), (de P "__builtins__" 171 (.ref 4)), (de P "__file__" 173 (.str (sO "/claim/cut.py") 172)), (de P "__cached__" 174 .none), (de P "_wall" 193 (.ref 21)), (de P "ToolError" 233 (.ref 46)), (de P "RegexError" 249 (.ref 59)), (de P "TOP" 253 (.int 127 252)), (de P "CharSet" 507 (.ref 227))] 14) #[])),
   (12, (Obj.mk .none none (.fields #[(.int 1 0), (.int 0 0), (.ref 20), (.int 5 0), (.int 0 0), (.ref 27), (.int 16 0), (.int 0 0), (.ref 55), (.int 20 0), (.int 0 0), (.ref 67)]) #[])),
   (15, (Obj.mk (.type "tuple") none (.seq #[] 0) #[])),
   (16, (Obj.mk .none none (.fields #[]) #[])),
   (17, (Obj.mk (.type "tuple") none (.seq #[(.str (sO "k") 190)] 0) #[])),
   (18, (Obj.mk (.type "tuple") none (.seq #[] 0) #[])),
   (19, (Obj.mk .none none (.func (FuncData.mk (sO "_wall") (sO "_wall") (parOf (fnT 0)) (FuncBody.stmts (bodOf (fnT 0))) (scoOf (fnT 0)) 0 [] .none .none .none .none none .none .none 0)) #[])),
   (20, (Obj.mk (.type "code") none (.fields #[(.str (sO "_wall") 187), (.str (sO "_wall") 188), (.str (sO "/claim/cut.py") 189), (.int 1 0), (.int 1 0), (.int 0 0), (.int 0 0), (.int 3 0), (.ref 15), (.bool true), (.int 181 0), (.ref 16), .none, (.ref 17), (.ref 18), (.ref 19), (.int 191 0), (.int 1 0), (.str (sO "/claim/cut.py") 192)]) #[])),
   (21, (Obj.mk (.type "function") none (.func (FuncData.mk (sO "_wall") (sO "_wall") (parOf (fnT 0)) (FuncBody.stmts (bodOf (fnT 0))) (scoOf (fnT 0)) 3 [] .none .none .none (.str (sO "__main__") 164) none (.ref 20) .none 0)) #[])),
   (22, (Obj.mk (.type "tuple") none (.seq #[(.type "Exception")] 0) #[])),
   (23, (Obj.mk (.type "builtin_function_or_method") none (.fields #[(.builtin "type.__prepare__"), (.type "type")]) #[])),
   (24, (Obj.mk (.type "dict") none (.dict #[(de P "__module__" 203 (.str (sO "grammarmill.source") 194)), (de P "__qualname__" 205 (.str (sO "ToolError") 204)), (de P "__firstlineno__" 207 (.int 5 206)), (de P "__init__" 216 (.ref 36)), (de P "told" 223 (.ref 43)), (de P "__static_attributes__" 226 (.ref 44))] 6) #[])),
   (25, (Obj.mk (.type "tuple") none (.seq #[] 0) #[])),
   (26, (Obj.mk .none none (.fields #[(.int 7 0), (.int 4 0), (.ref 35), (.int 12 0), (.int 4 0), (.ref 42)]) #[])),
   (27, (Obj.mk (.type "code") none (.fields #[(.str (sO "ToolError") 198), (.str (sO "ToolError") 199), (.str (sO "/claim/cut.py") 200), (.int 5 0), (.int 0 0), (.int 0 0), (.int 0 0), (.int 0 0), (.ref 25), (.bool false), (.int 181 0), (.ref 26), .none, .none, .none, .none, (.int 201 0), (.int 5 0), (.str (sO "/claim/cut.py") 202)]) #[])),
   (28, (Obj.mk (.type "frame") none Data.plain #[(some (.ref 27)), (some (.ref 3)), (some (.ref 24)), none, (some (.str (sO "grammarmill.source") 194)), none, (some (.ref 0))])),
   (29, (Obj.mk (.type "tuple") none (.seq #[.none] 0) #[])),
   (30, (Obj.mk (.type "tuple") none (.seq #[] 0) #[])),
   (31, (Obj.mk .none none (.fields #[]) #[])),
   (32, (Obj.mk (.type "tuple") none (.seq #[(.str (sO "self") 211), (.str (sO "what") 212), (.str (sO "at") 213)] 0) #[])),
   (33, (Obj.mk (.type "tuple") none (.seq #[] 0) #[])),
   (34, (Obj.mk .none none (.func (FuncData.mk (sO "__init__") (sO "ToolError.__init__") (parOf (memOf (fnT 2) 0)) (FuncBody.stmts (bodOf (memOf (fnT 2) 0))) (scoOf (memOf (fnT 2) 0)) 0 [] .none .none .none .none none .none .none 0)) #[])),
   (35, (Obj.mk (.type "code") none (.fields #[(.str (sO "__init__") 208), (.str (sO "ToolError.__init__") 209), (.str (sO "/claim/cut.py") 210), (.int 7 0), (.int 3 0), (.int 0 0), (.int 0 0), (.int 3 0), (.ref 30), (.bool true), (.int 181 0), (.ref 31), .none, (.ref 32), (.ref 33), (.ref 34), (.int 214 0), (.int 7 0), (.str (sO "/claim/cut.py") 215)]) #[])),
   (36, (Obj.mk (.type "function") none (.func (FuncData.mk (sO "__init__") (sO "ToolError.__init__") (parOf (memOf (fnT 2) 0)) (FuncBody.stmts (bodOf (memOf (fnT 2) 0))) (scoOf (memOf (fnT 2) 0)) 3 [] (.ref 29) .none .none (.str (sO "grammarmill.source") 194) none (.ref 35) .none 0)) #[])),
   (37, (Obj.mk (.type "tuple") none (.seq #[] 0) #[])),
   (38, (Obj.mk .none none (.fields #[]) #[])),
   (39, (Obj.mk (.type "tuple") none (.seq #[(.str (sO "self") 220)] 0) #[])),
   (40, (Obj.mk (.type "tuple") none (.seq #[] 0) #[])),
   (41, (Obj.mk .none none (.func (FuncData.mk (sO "told") (sO "ToolError.told") (parOf (memOf (fnT 2) 1)) (FuncBody.stmts (bodOf (memOf (fnT 2) 1))) (scoOf (memOf (fnT 2) 1)) 0 [] .none .none .none .none none .none .none 0)) #[])),
   (42, (Obj.mk (.type "code") none (.fields #[(.str (sO "told") 217), (.str (sO "ToolError.told") 218), (.str (sO "/claim/cut.py") 219), (.int 12 0), (.int 1 0), (.int 0 0), (.int 0 0), (.int 3 0), (.ref 37), (.bool true), (.int 181 0), (.ref 38), .none, (.ref 39), (.ref 40), (.ref 41), (.int 221 0), (.int 12 0), (.str (sO "/claim/cut.py") 222)]) #[])),
   (43, (Obj.mk (.type "function") none (.func (FuncData.mk (sO "told") (sO "ToolError.told") (parOf (memOf (fnT 2) 1)) (FuncBody.stmts (bodOf (memOf (fnT 2) 1))) (scoOf (memOf (fnT 2) 1)) 3 [] .none .none .none (.str (sO "grammarmill.source") 194) none (.ref 42) .none 0)) #[])),
   (44, (Obj.mk (.type "tuple") none (.seq #[(.str (sO "at") 224), (.str (sO "what") 225)] 0) #[])),
   (45, (Obj.mk (.type "dict") none (.dict #[(de P "__module__" 203 (.str (sO "grammarmill.source") 194)), (de P "__firstlineno__" 207 (.int 5 206)), (de P "__init__" 216 (.ref 36)), (de P "told" 223 (.ref 43)), (de P "__static_attributes__" 226 (.ref 44)), (de P "__weakref__" 228 (.ref 47)), (de P "__doc__" 229 .none)] 3) #[])),
   (46, (Obj.mk (.type "type") none (.cls (ClassData.mk (sO "ToolError") [(.type "Exception")] [(.ref 46), (.type "Exception"), (.type "BaseException"), (.type "object")] 45 (sO "ToolError") true [] [(.ref 59)] false none false)) #[(some (.ref 22)), none, (some (.str (sO "ToolError") 196)), (some (.str (sO "ToolError") 204)), (some (.builtin "Exception.__new__")), (some (.bool true))])),
   (47, (Obj.mk (.type "getset_descriptor") none (.fields #[(.str (sO "__weakref__") 227), (.ref 46), (.builtin "ExceptionGroup.__weakref__"), .none]) #[])),
   (48, (Obj.mk (.type "super") none (.fields #[(.ref 46), (.ref 46), (.ref 46)]) #[])),
   (49, (Obj.mk (.type "builtin_function_or_method") none (.fields #[(.builtin "object.__init_subclass__"), (.ref 46)]) #[])),
   (50, (Obj.mk (.type "tuple") none (.seq #[(.ref 46)] 0) #[])),
   (51, (Obj.mk (.type "builtin_function_or_method") none (.fields #[(.builtin "type.__prepare__"), (.type "type")]) #[])),
   (52, (Obj.mk (.type "dict") none (.dict #[(de P "__module__" 241 (.str (sO "grammarmill.source") 194)), (de P "__qualname__" 243 (.str (sO "RegexError") 242)), (de P "__firstlineno__" 245 (.int 16 244)), (de P "__static_attributes__" 246 (.ref 57))] 4) #[])),
   (53, (Obj.mk (.type "tuple") none (.seq #[] 0) #[])),
   (54, (Obj.mk .none none (.fields #[]) #[])),
   (55, (Obj.mk (.type "code") none (.fields #[(.str (sO "RegexError") 236), (.str (sO "RegexError") 237), (.str (sO "/claim/cut.py") 238), (.int 16 0), (.int 0 0), (.int 0 0), (.int 0 0), (.int 0 0), (.ref 53), (.bool false), (.int 181 0), (.ref 54), .none, .none, .none, .none, (.int 239 0), (.int 16 0), (.str (sO "/claim/cut.py") 240)]) #[])),
   (56, (Obj.mk (.type "frame") none Data.plain #[(some (.ref 55)), (some (.ref 3)), (some (.ref 52)), none, (some (.str (sO "grammarmill.source") 194)), none, (some (.ref 0))])),
   (57, (Obj.mk (.type "tuple") none (.seq #[] 0) #[])),
   (58, (Obj.mk (.type "dict") none (.dict #[(de P "__module__" 241 (.str (sO "grammarmill.source") 194)), (de P "__firstlineno__" 245 (.int 16 244)), (de P "__static_attributes__" 246 (.ref 57)), (de P "__doc__" 247 .none)] 2) #[])),
   (59, (Obj.mk (.type "type") none (.cls (ClassData.mk (sO "RegexError") [(.ref 46)] [(.ref 59), (.ref 46), (.type "Exception"), (.type "BaseException"), (.type "object")] 58 (sO "RegexError") true [] [] false none false)) #[(some (.ref 50)), none, (some (.str (sO "RegexError") 234)), (some (.str (sO "RegexError") 242)), (some (.builtin "Exception.__new__")), (some (.bool true))])),
   (60, (Obj.mk (.type "super") none (.fields #[(.ref 59), (.ref 59), (.ref 59)]) #[])),
   (61, (Obj.mk (.type "builtin_function_or_method") none (.fields #[(.builtin "object.__init_subclass__"), (.ref 59)]) #[]))] ++
  [(62, (Obj.mk (.type "tuple") none (.seq #[] 0) #[])),
   (63, (Obj.mk (.type "builtin_function_or_method") none (.fields #[(.builtin "type.__prepare__"), (.type "type")]) #[])),
   (64, (Obj.mk (.type "dict") none (.dict #[(de P "__module__" 261 (.str (sO "grammarmill.charset") 250)), (de P "__qualname__" 263 (.str (sO "CharSet") 262)), (de P "__firstlineno__" 265 (.int 20 264)), (de P "__init__" 273 (.ref 75)), (de P "none" 291 (.ref 84)), (de P "every" 309 (.ref 94)), (de P "dot" 327 (.ref 104)), (de P "of" 345 (.ref 112)), (de P "span" 365 (.ref 122)), (de P "made" 390 (.ref 132)), (de P "has" 403 (.ref 140)), (de P "size" 413 (.ref 147)), (de P "codes" 423 (.ref 154)), (de P "least" 430 (.ref 161)), (de P "is_empty" 437 (.ref 168)), (de P "union" 445 (.ref 175)), (de P "meet" 453 (.ref 182)), (de P "complement" 460 (.ref 189)), (de P "minus" 468 (.ref 196)), (de P "same" 476 (.ref 203)), (de P "meets" 484 (.ref 210)), (de P "folded" 491 (.ref 217)), (de P "key" 498 (.ref 224)), (de P "__static_attributes__" 500 (.ref 225))] 24) #[])),
   (65, (Obj.mk (.type "tuple") none (.seq #[] 0) #[])),
   (66, (Obj.mk .none none (.fields #[(.int 22 0), (.int 4 0), (.ref 74), (.int 26 0), (.int 4 0), (.ref 81), (.int 30 0), (.int 4 0), (.ref 91), (.int 34 0), (.int 4 0), (.ref 101), (.int 38 0), (.int 4 0), (.ref 109), (.int 42 0), (.int 4 0), (.ref 119), (.int 46 0), (.int 4 0), (.ref 129), (.int 62 0), (.int 4 0), (.ref 139), (.int 76 0), (.int 4 0), (.ref 146), (.int 82 0), (.int 4 0), (.ref 153), (.int 88 0), (.int 4 0), (.ref 160), (.int 93 0), (.int 4 0), (.ref 167), (.int 96 0), (.int 4 0), (.ref 174), (.int 99 0), (.int 4 0), (.ref 181), (.int 102 0), (.int 4 0), (.ref 188), (.int 105 0), (.int 4 0), (.ref 195), (.int 108 0), (.int 4 0), (.ref 202), (.int 111 0), (.int 4 0), (.ref 209), (.int 114 0), (.int 4 0), (.ref 216), (.int 117 0), (.int 4 0), (.ref 223)]) #[])),
   (67, (Obj.mk (.type "code") none (.fields #[(.str (sO "CharSet") 256), (.str (sO "CharSet") 257), (.str (sO "/claim/cut.py") 258), (.int 20 0), (.int 0 0), (.int 0 0), (.int 0 0), (.int 0 0), (.ref 65), (.bool false), (.int 181 0), (.ref 66), .none, .none, .none, .none, (.int 259 0), (.int 20 0), (.str (sO "/claim/cut.py") 260)]) #[])),
   (68, (Obj.mk (.type "frame") none Data.plain #[(some (.ref 67)), (some (.ref 3)), (some (.ref 64)), none, (some (.str (sO "grammarmill.charset") 250)), none, (some (.ref 0))])),
   (69, (Obj.mk (.type "tuple") none (.seq #[] 0) #[])),
   (70, (Obj.mk .none none (.fields #[]) #[])),
   (71, (Obj.mk (.type "tuple") none (.seq #[(.str (sO "self") 269), (.str (sO "spans") 270)] 0) #[])),
   (72, (Obj.mk (.type "tuple") none (.seq #[] 0) #[])),
   (73, (Obj.mk .none none (.func (FuncData.mk (sO "__init__") (sO "CharSet.__init__") (parOf (memOf (fnT 6) 0)) (FuncBody.stmts (bodOf (memOf (fnT 6) 0))) (scoOf (memOf (fnT 6) 0)) 0 [] .none .none .none .none none .none .none 0)) #[])),
   (74, (Obj.mk (.type "code") none (.fields #[(.str (sO "__init__") 266), (.str (sO "CharSet.__init__") 267), (.str (sO "/claim/cut.py") 268), (.int 22 0), (.int 2 0), (.int 0 0), (.int 0 0), (.int 3 0), (.ref 69), (.bool true), (.int 181 0), (.ref 70), .none, (.ref 71), (.ref 72), (.ref 73), (.int 271 0), (.int 22 0), (.str (sO "/claim/cut.py") 272)]) #[])),
   (75, (Obj.mk (.type "function") none (.func (FuncData.mk (sO "__init__") (sO "CharSet.__init__") (parOf (memOf (fnT 6) 0)) (FuncBody.stmts (bodOf (memOf (fnT 6) 0))) (scoOf (memOf (fnT 6) 0)) 3 [] .none .none .none (.str (sO "grammarmill.charset") 250) none (.ref 74) .none 0)) #[])),
   (76, (Obj.mk (.type "tuple") none (.seq #[] 0) #[])),
   (77, (Obj.mk .none none (.fields #[]) #[])),
   (78, (Obj.mk (.type "tuple") none (.seq #[] 0) #[])),
   (79, (Obj.mk (.type "tuple") none (.seq #[] 0) #[])),
   (80, (Obj.mk .none none (.func (FuncData.mk (sO "none") (sO "CharSet.none") (parOf (memOf (fnT 6) 1)) (FuncBody.stmts (bodOf (memOf (fnT 6) 1))) (scoOf (memOf (fnT 6) 1)) 0 [] .none .none .none .none none .none .none 0)) #[])),
   (81, (Obj.mk (.type "code") none (.fields #[(.str (sO "none") 274), (.str (sO "CharSet.none") 275), (.str (sO "/claim/cut.py") 276), (.int 25 0), (.int 0 0), (.int 0 0), (.int 0 0), (.int 3 0), (.ref 76), (.bool true), (.int 181 0), (.ref 77), .none, (.ref 78), (.ref 79), (.ref 80), (.int 277 0), (.int 25 0), (.str (sO "/claim/cut.py") 278)]) #[])),
   (82, (Obj.mk (.type "function") none (.func (FuncData.mk (sO "none") (sO "CharSet.none") (parOf (memOf (fnT 6) 1)) (FuncBody.stmts (bodOf (memOf (fnT 6) 1))) (scoOf (memOf (fnT 6) 1)) 3 [] .none .none .none (.str (sO "grammarmill.charset") 250) (some 85) (.ref 81) .none 0)) #[])),
   (83, (Obj.mk (.type "dict") none (.dict #[(de P "__module__" 280 (.str (sO "grammarmill.charset") 250)), (de P "__name__" 283 (.str (sO "none") 282)), (de P "__qualname__" 286 (.str (sO "CharSet.none") 285)), (de P "__doc__" 288 .none), (de P "__annotations__" 290 (.ref 85))] 5) #[])),
   (84, (Obj.mk (.type "staticmethod") (some 83) (.fields #[(.ref 82), (.bool false)]) #[])),
   (85, (Obj.mk (.type "dict") none (.dict #[] 0) #[])),
   (86, (Obj.mk (.type "tuple") none (.seq #[] 0) #[])),
   (87, (Obj.mk .none none (.fields #[]) #[])),
   (88, (Obj.mk (.type "tuple") none (.seq #[] 0) #[])),
   (89, (Obj.mk (.type "tuple") none (.seq #[] 0) #[])),
   (90, (Obj.mk .none none (.func (FuncData.mk (sO "every") (sO "CharSet.every") (parOf (memOf (fnT 6) 2)) (FuncBody.stmts (bodOf (memOf (fnT 6) 2))) (scoOf (memOf (fnT 6) 2)) 0 [] .none .none .none .none none .none .none 0)) #[])),
   (91, (Obj.mk (.type "code") none (.fields #[(.str (sO "every") 292), (.str (sO "CharSet.every") 293), (.str (sO "/claim/cut.py") 294), (.int 29 0), (.int 0 0), (.int 0 0), (.int 0 0), (.int 3 0), (.ref 86), (.bool true), (.int 181 0), (.ref 87), .none, (.ref 88), (.ref 89), (.ref 90), (.int 295 0), (.int 29 0), (.str (sO "/claim/cut.py") 296)]) #[])),
   (92, (Obj.mk (.type "function") none (.func (FuncData.mk (sO "every") (sO "CharSet.every") (parOf (memOf (fnT 6) 2)) (FuncBody.stmts (bodOf (memOf (fnT 6) 2))) (scoOf (memOf (fnT 6) 2)) 3 [] .none .none .none (.str (sO "grammarmill.charset") 250) (some 95) (.ref 91) .none 0)) #[])),
   (93, (Obj.mk (.type "dict") none (.dict #[(de P "__module__" 298 (.str (sO "grammarmill.charset") 250)), (de P "__name__" 301 (.str (sO "every") 300)), (de P "__qualname__" 304 (.str (sO "CharSet.every") 303)), (de P "__doc__" 306 .none), (de P "__annotations__" 308 (.ref 95))] 5) #[])),
   (94, (Obj.mk (.type "staticmethod") (some 93) (.fields #[(.ref 92), (.bool false)]) #[])),
   (95, (Obj.mk (.type "dict") none (.dict #[] 0) #[])),
   (96, (Obj.mk (.type "tuple") none (.seq #[] 0) #[])),
   (97, (Obj.mk .none none (.fields #[]) #[])),
   (98, (Obj.mk (.type "tuple") none (.seq #[] 0) #[])),
   (99, (Obj.mk (.type "tuple") none (.seq #[] 0) #[])),
   (100, (Obj.mk .none none (.func (FuncData.mk (sO "dot") (sO "CharSet.dot") (parOf (memOf (fnT 6) 3)) (FuncBody.stmts (bodOf (memOf (fnT 6) 3))) (scoOf (memOf (fnT 6) 3)) 0 [] .none .none .none .none none .none .none 0)) #[])),
   (101, (Obj.mk (.type "code") none (.fields #[(.str (sO "dot") 310), (.str (sO "CharSet.dot") 311), (.str (sO "/claim/cut.py") 312), (.int 33 0), (.int 0 0), (.int 0 0), (.int 0 0), (.int 3 0), (.ref 96), (.bool true), (.int 181 0), (.ref 97), .none, (.ref 98), (.ref 99), (.ref 100), (.int 313 0), (.int 33 0), (.str (sO "/claim/cut.py") 314)]) #[])),
   (102, (Obj.mk (.type "function") none (.func (FuncData.mk (sO "dot") (sO "CharSet.dot") (parOf (memOf (fnT 6) 3)) (FuncBody.stmts (bodOf (memOf (fnT 6) 3))) (scoOf (memOf (fnT 6) 3)) 3 [] .none .none .none (.str (sO "grammarmill.charset") 250) (some 105) (.ref 101) .none 0)) #[])),
   (103, (Obj.mk (.type "dict") none (.dict #[(de P "__module__" 316 (.str (sO "grammarmill.charset") 250)), (de P "__name__" 319 (.str (sO "dot") 318)), (de P "__qualname__" 322 (.str (sO "CharSet.dot") 321)), (de P "__doc__" 324 .none), (de P "__annotations__" 326 (.ref 105))] 5) #[])),
   (104, (Obj.mk (.type "staticmethod") (some 103) (.fields #[(.ref 102), (.bool false)]) #[])),
   (105, (Obj.mk (.type "dict") none (.dict #[] 0) #[])),
   (106, (Obj.mk (.type "tuple") none (.seq #[] 0) #[])),
   (107, (Obj.mk .none none (.fields #[]) #[])),
   (108, (Obj.mk .none none (.func (FuncData.mk (sO "of") (sO "CharSet.of") (parOf (memOf (fnT 6) 4)) (FuncBody.stmts (bodOf (memOf (fnT 6) 4))) (scoOf (memOf (fnT 6) 4)) 0 [] .none .none .none .none none .none .none 0)) #[])),
   (109, (Obj.mk (.type "code") none (.fields #[(.str (sO "of") 328), (.str (sO "CharSet.of") 329), (.str (sO "/claim/cut.py") 330), (.int 37 0), (.int 1 0), (.int 0 0), (.int 0 0), (.int 3 0), (.ref 106), (.bool true), (.int 181 0), (.ref 107), .none, .none, .none, (.ref 108), (.int 331 0), (.int 37 0), (.str (sO "/claim/cut.py") 332)]) #[])),
   (110, (Obj.mk (.type "function") none (.func (FuncData.mk (sO "of") (sO "CharSet.of") (parOf (memOf (fnT 6) 4)) (FuncBody.stmts (bodOf (memOf (fnT 6) 4))) (scoOf (memOf (fnT 6) 4)) 3 [] .none .none .none (.str (sO "grammarmill.charset") 250) (some 113) (.ref 109) .none 0)) #[])),
   (111, (Obj.mk (.type "dict") none (.dict #[(de P "__module__" 334 (.str (sO "grammarmill.charset") 250)), (de P "__name__" 337 (.str (sO "of") 336)), (de P "__qualname__" 340 (.str (sO "CharSet.of") 339)), (de P "__doc__" 342 .none), (de P "__annotations__" 344 (.ref 113))] 5) #[]))] ++
  [(112, (Obj.mk (.type "staticmethod") (some 111) (.fields #[(.ref 110), (.bool false)]) #[])),
   (113, (Obj.mk (.type "dict") none (.dict #[] 0) #[])),
   (114, (Obj.mk (.type "tuple") none (.seq #[] 0) #[])),
   (115, (Obj.mk .none none (.fields #[]) #[])),
   (116, (Obj.mk (.type "tuple") none (.seq #[(.str (sO "low") 349), (.str (sO "high") 350)] 0) #[])),
   (117, (Obj.mk (.type "tuple") none (.seq #[] 0) #[])),
   (118, (Obj.mk .none none (.func (FuncData.mk (sO "span") (sO "CharSet.span") (parOf (memOf (fnT 6) 5)) (FuncBody.stmts (bodOf (memOf (fnT 6) 5))) (scoOf (memOf (fnT 6) 5)) 0 [] .none .none .none .none none .none .none 0)) #[])),
   (119, (Obj.mk (.type "code") none (.fields #[(.str (sO "span") 346), (.str (sO "CharSet.span") 347), (.str (sO "/claim/cut.py") 348), (.int 41 0), (.int 2 0), (.int 0 0), (.int 0 0), (.int 3 0), (.ref 114), (.bool true), (.int 181 0), (.ref 115), .none, (.ref 116), (.ref 117), (.ref 118), (.int 351 0), (.int 41 0), (.str (sO "/claim/cut.py") 352)]) #[])),
   (120, (Obj.mk (.type "function") none (.func (FuncData.mk (sO "span") (sO "CharSet.span") (parOf (memOf (fnT 6) 5)) (FuncBody.stmts (bodOf (memOf (fnT 6) 5))) (scoOf (memOf (fnT 6) 5)) 3 [] .none .none .none (.str (sO "grammarmill.charset") 250) (some 123) (.ref 119) .none 0)) #[])),
   (121, (Obj.mk (.type "dict") none (.dict #[(de P "__module__" 354 (.str (sO "grammarmill.charset") 250)), (de P "__name__" 357 (.str (sO "span") 356)), (de P "__qualname__" 360 (.str (sO "CharSet.span") 359)), (de P "__doc__" 362 .none), (de P "__annotations__" 364 (.ref 123))] 5) #[])),
   (122, (Obj.mk (.type "staticmethod") (some 121) (.fields #[(.ref 120), (.bool false)]) #[])),
   (123, (Obj.mk (.type "dict") none (.dict #[] 0) #[])),
   (124, (Obj.mk (.type "tuple") none (.seq #[] 0) #[])),
   (125, (Obj.mk .none none (.fields #[]) #[])),
   (126, (Obj.mk (.type "tuple") none (.seq #[(.str (sO "pairs") 369), (.str (sO "kept") 370), (.str (sO "first") 371), (.str (sO "last") 372), (.str (sO "low") 373), (.str (sO "high") 374), (.str (sO "spans") 375)] 0) #[])),
   (127, (Obj.mk (.type "tuple") none (.seq #[] 0) #[])),
   (128, (Obj.mk .none none (.func (FuncData.mk (sO "made") (sO "CharSet.made") (parOf (memOf (fnT 6) 6)) (FuncBody.stmts (bodOf (memOf (fnT 6) 6))) (scoOf (memOf (fnT 6) 6)) 0 [] .none .none .none .none none .none .none 0)) #[])),
   (129, (Obj.mk (.type "code") none (.fields #[(.str (sO "made") 366), (.str (sO "CharSet.made") 367), (.str (sO "/claim/cut.py") 368), (.int 45 0), (.int 1 0), (.int 0 0), (.int 0 0), (.int 3 0), (.ref 124), (.bool true), (.int 181 0), (.ref 125), .none, (.ref 126), (.ref 127), (.ref 128), (.int 376 0), (.int 45 0), (.str (sO "/claim/cut.py") 377)]) #[])),
   (130, (Obj.mk (.type "function") none (.func (FuncData.mk (sO "made") (sO "CharSet.made") (parOf (memOf (fnT 6) 6)) (FuncBody.stmts (bodOf (memOf (fnT 6) 6))) (scoOf (memOf (fnT 6) 6)) 3 [] .none .none .none (.str (sO "grammarmill.charset") 250) (some 133) (.ref 129) .none 0)) #[])),
   (131, (Obj.mk (.type "dict") none (.dict #[(de P "__module__" 379 (.str (sO "grammarmill.charset") 250)), (de P "__name__" 382 (.str (sO "made") 381)), (de P "__qualname__" 385 (.str (sO "CharSet.made") 384)), (de P "__doc__" 387 .none), (de P "__annotations__" 389 (.ref 133))] 5) #[])),
   (132, (Obj.mk (.type "staticmethod") (some 131) (.fields #[(.ref 130), (.bool false)]) #[])),
   (133, (Obj.mk (.type "dict") none (.dict #[] 0) #[])),
   (134, (Obj.mk (.type "tuple") none (.seq #[] 0) #[])),
   (135, (Obj.mk .none none (.fields #[]) #[])),
   (136, (Obj.mk (.type "tuple") none (.seq #[(.str (sO "self") 394), (.str (sO "code") 395), (.str (sO "left") 396), (.str (sO "right") 397), (.str (sO "middle") 398), (.str (sO "low") 399), (.str (sO "high") 400)] 0) #[])),
   (137, (Obj.mk (.type "tuple") none (.seq #[] 0) #[])),
   (138, (Obj.mk .none none (.func (FuncData.mk (sO "has") (sO "CharSet.has") (parOf (memOf (fnT 6) 7)) (FuncBody.stmts (bodOf (memOf (fnT 6) 7))) (scoOf (memOf (fnT 6) 7)) 0 [] .none .none .none .none none .none .none 0)) #[])),
   (139, (Obj.mk (.type "code") none (.fields #[(.str (sO "has") 391), (.str (sO "CharSet.has") 392), (.str (sO "/claim/cut.py") 393), (.int 62 0), (.int 2 0), (.int 0 0), (.int 0 0), (.int 3 0), (.ref 134), (.bool true), (.int 181 0), (.ref 135), .none, (.ref 136), (.ref 137), (.ref 138), (.int 401 0), (.int 62 0), (.str (sO "/claim/cut.py") 402)]) #[])),
   (140, (Obj.mk (.type "function") none (.func (FuncData.mk (sO "has") (sO "CharSet.has") (parOf (memOf (fnT 6) 7)) (FuncBody.stmts (bodOf (memOf (fnT 6) 7))) (scoOf (memOf (fnT 6) 7)) 3 [] .none .none .none (.str (sO "grammarmill.charset") 250) none (.ref 139) .none 0)) #[])),
   (141, (Obj.mk (.type "tuple") none (.seq #[] 0) #[])),
   (142, (Obj.mk .none none (.fields #[]) #[])),
   (143, (Obj.mk (.type "tuple") none (.seq #[(.str (sO "self") 407), (.str (sO "total") 408), (.str (sO "low") 409), (.str (sO "high") 410)] 0) #[])),
   (144, (Obj.mk (.type "tuple") none (.seq #[] 0) #[])),
   (145, (Obj.mk .none none (.func (FuncData.mk (sO "size") (sO "CharSet.size") (parOf (memOf (fnT 6) 8)) (FuncBody.stmts (bodOf (memOf (fnT 6) 8))) (scoOf (memOf (fnT 6) 8)) 0 [] .none .none .none .none none .none .none 0)) #[])),
   (146, (Obj.mk (.type "code") none (.fields #[(.str (sO "size") 404), (.str (sO "CharSet.size") 405), (.str (sO "/claim/cut.py") 406), (.int 76 0), (.int 1 0), (.int 0 0), (.int 0 0), (.int 3 0), (.ref 141), (.bool true), (.int 181 0), (.ref 142), .none, (.ref 143), (.ref 144), (.ref 145), (.int 411 0), (.int 76 0), (.str (sO "/claim/cut.py") 412)]) #[])),
   (147, (Obj.mk (.type "function") none (.func (FuncData.mk (sO "size") (sO "CharSet.size") (parOf (memOf (fnT 6) 8)) (FuncBody.stmts (bodOf (memOf (fnT 6) 8))) (scoOf (memOf (fnT 6) 8)) 3 [] .none .none .none (.str (sO "grammarmill.charset") 250) none (.ref 146) .none 0)) #[])),
   (148, (Obj.mk (.type "tuple") none (.seq #[] 0) #[])),
   (149, (Obj.mk .none none (.fields #[]) #[])),
   (150, (Obj.mk (.type "tuple") none (.seq #[(.str (sO "self") 417), (.str (sO "found") 418), (.str (sO "low") 419), (.str (sO "high") 420)] 0) #[])),
   (151, (Obj.mk (.type "tuple") none (.seq #[] 0) #[])),
   (152, (Obj.mk .none none (.func (FuncData.mk (sO "codes") (sO "CharSet.codes") (parOf (memOf (fnT 6) 9)) (FuncBody.stmts (bodOf (memOf (fnT 6) 9))) (scoOf (memOf (fnT 6) 9)) 0 [] .none .none .none .none none .none .none 0)) #[])),
   (153, (Obj.mk (.type "code") none (.fields #[(.str (sO "codes") 414), (.str (sO "CharSet.codes") 415), (.str (sO "/claim/cut.py") 416), (.int 82 0), (.int 1 0), (.int 0 0), (.int 0 0), (.int 3 0), (.ref 148), (.bool true), (.int 181 0), (.ref 149), .none, (.ref 150), (.ref 151), (.ref 152), (.int 421 0), (.int 82 0), (.str (sO "/claim/cut.py") 422)]) #[])),
   (154, (Obj.mk (.type "function") none (.func (FuncData.mk (sO "codes") (sO "CharSet.codes") (parOf (memOf (fnT 6) 9)) (FuncBody.stmts (bodOf (memOf (fnT 6) 9))) (scoOf (memOf (fnT 6) 9)) 3 [] .none .none .none (.str (sO "grammarmill.charset") 250) none (.ref 153) .none 0)) #[])),
   (155, (Obj.mk (.type "tuple") none (.seq #[] 0) #[])),
   (156, (Obj.mk .none none (.fields #[]) #[])),
   (157, (Obj.mk (.type "tuple") none (.seq #[(.str (sO "self") 427)] 0) #[])),
   (158, (Obj.mk (.type "tuple") none (.seq #[] 0) #[])),
   (159, (Obj.mk .none none (.func (FuncData.mk (sO "least") (sO "CharSet.least") (parOf (memOf (fnT 6) 10)) (FuncBody.stmts (bodOf (memOf (fnT 6) 10))) (scoOf (memOf (fnT 6) 10)) 0 [] .none .none .none .none none .none .none 0)) #[])),
   (160, (Obj.mk (.type "code") none (.fields #[(.str (sO "least") 424), (.str (sO "CharSet.least") 425), (.str (sO "/claim/cut.py") 426), (.int 88 0), (.int 1 0), (.int 0 0), (.int 0 0), (.int 3 0), (.ref 155), (.bool true), (.int 181 0), (.ref 156), .none, (.ref 157), (.ref 158), (.ref 159), (.int 428 0), (.int 88 0), (.str (sO "/claim/cut.py") 429)]) #[])),
   (161, (Obj.mk (.type "function") none (.func (FuncData.mk (sO "least") (sO "CharSet.least") (parOf (memOf (fnT 6) 10)) (FuncBody.stmts (bodOf (memOf (fnT 6) 10))) (scoOf (memOf (fnT 6) 10)) 3 [] .none .none .none (.str (sO "grammarmill.charset") 250) none (.ref 160) .none 0)) #[]))] ++
  [(162, (Obj.mk (.type "tuple") none (.seq #[] 0) #[])),
   (163, (Obj.mk .none none (.fields #[]) #[])),
   (164, (Obj.mk (.type "tuple") none (.seq #[(.str (sO "self") 434)] 0) #[])),
   (165, (Obj.mk (.type "tuple") none (.seq #[] 0) #[])),
   (166, (Obj.mk .none none (.func (FuncData.mk (sO "is_empty") (sO "CharSet.is_empty") (parOf (memOf (fnT 6) 11)) (FuncBody.stmts (bodOf (memOf (fnT 6) 11))) (scoOf (memOf (fnT 6) 11)) 0 [] .none .none .none .none none .none .none 0)) #[])),
   (167, (Obj.mk (.type "code") none (.fields #[(.str (sO "is_empty") 431), (.str (sO "CharSet.is_empty") 432), (.str (sO "/claim/cut.py") 433), (.int 93 0), (.int 1 0), (.int 0 0), (.int 0 0), (.int 3 0), (.ref 162), (.bool true), (.int 181 0), (.ref 163), .none, (.ref 164), (.ref 165), (.ref 166), (.int 435 0), (.int 93 0), (.str (sO "/claim/cut.py") 436)]) #[])),
   (168, (Obj.mk (.type "function") none (.func (FuncData.mk (sO "is_empty") (sO "CharSet.is_empty") (parOf (memOf (fnT 6) 11)) (FuncBody.stmts (bodOf (memOf (fnT 6) 11))) (scoOf (memOf (fnT 6) 11)) 3 [] .none .none .none (.str (sO "grammarmill.charset") 250) none (.ref 167) .none 0)) #[])),
   (169, (Obj.mk (.type "tuple") none (.seq #[] 0) #[])),
   (170, (Obj.mk .none none (.fields #[]) #[])),
   (171, (Obj.mk (.type "tuple") none (.seq #[(.str (sO "self") 441), (.str (sO "other") 442)] 0) #[])),
   (172, (Obj.mk (.type "tuple") none (.seq #[] 0) #[])),
   (173, (Obj.mk .none none (.func (FuncData.mk (sO "union") (sO "CharSet.union") (parOf (memOf (fnT 6) 12)) (FuncBody.stmts (bodOf (memOf (fnT 6) 12))) (scoOf (memOf (fnT 6) 12)) 0 [] .none .none .none .none none .none .none 0)) #[])),
   (174, (Obj.mk (.type "code") none (.fields #[(.str (sO "union") 438), (.str (sO "CharSet.union") 439), (.str (sO "/claim/cut.py") 440), (.int 96 0), (.int 2 0), (.int 0 0), (.int 0 0), (.int 3 0), (.ref 169), (.bool true), (.int 181 0), (.ref 170), .none, (.ref 171), (.ref 172), (.ref 173), (.int 443 0), (.int 96 0), (.str (sO "/claim/cut.py") 444)]) #[])),
   (175, (Obj.mk (.type "function") none (.func (FuncData.mk (sO "union") (sO "CharSet.union") (parOf (memOf (fnT 6) 12)) (FuncBody.stmts (bodOf (memOf (fnT 6) 12))) (scoOf (memOf (fnT 6) 12)) 3 [] .none .none .none (.str (sO "grammarmill.charset") 250) none (.ref 174) .none 0)) #[])),
   (176, (Obj.mk (.type "tuple") none (.seq #[] 0) #[])),
   (177, (Obj.mk .none none (.fields #[]) #[])),
   (178, (Obj.mk (.type "tuple") none (.seq #[(.str (sO "self") 449), (.str (sO "other") 450)] 0) #[])),
   (179, (Obj.mk (.type "tuple") none (.seq #[] 0) #[])),
   (180, (Obj.mk .none none (.func (FuncData.mk (sO "meet") (sO "CharSet.meet") (parOf (memOf (fnT 6) 13)) (FuncBody.stmts (bodOf (memOf (fnT 6) 13))) (scoOf (memOf (fnT 6) 13)) 0 [] .none .none .none .none none .none .none 0)) #[])),
   (181, (Obj.mk (.type "code") none (.fields #[(.str (sO "meet") 446), (.str (sO "CharSet.meet") 447), (.str (sO "/claim/cut.py") 448), (.int 99 0), (.int 2 0), (.int 0 0), (.int 0 0), (.int 3 0), (.ref 176), (.bool true), (.int 181 0), (.ref 177), .none, (.ref 178), (.ref 179), (.ref 180), (.int 451 0), (.int 99 0), (.str (sO "/claim/cut.py") 452)]) #[])),
   (182, (Obj.mk (.type "function") none (.func (FuncData.mk (sO "meet") (sO "CharSet.meet") (parOf (memOf (fnT 6) 13)) (FuncBody.stmts (bodOf (memOf (fnT 6) 13))) (scoOf (memOf (fnT 6) 13)) 3 [] .none .none .none (.str (sO "grammarmill.charset") 250) none (.ref 181) .none 0)) #[])),
   (183, (Obj.mk (.type "tuple") none (.seq #[] 0) #[])),
   (184, (Obj.mk .none none (.fields #[]) #[])),
   (185, (Obj.mk (.type "tuple") none (.seq #[(.str (sO "self") 457)] 0) #[])),
   (186, (Obj.mk (.type "tuple") none (.seq #[] 0) #[])),
   (187, (Obj.mk .none none (.func (FuncData.mk (sO "complement") (sO "CharSet.complement") (parOf (memOf (fnT 6) 14)) (FuncBody.stmts (bodOf (memOf (fnT 6) 14))) (scoOf (memOf (fnT 6) 14)) 0 [] .none .none .none .none none .none .none 0)) #[])),
   (188, (Obj.mk (.type "code") none (.fields #[(.str (sO "complement") 454), (.str (sO "CharSet.complement") 455), (.str (sO "/claim/cut.py") 456), (.int 102 0), (.int 1 0), (.int 0 0), (.int 0 0), (.int 3 0), (.ref 183), (.bool true), (.int 181 0), (.ref 184), .none, (.ref 185), (.ref 186), (.ref 187), (.int 458 0), (.int 102 0), (.str (sO "/claim/cut.py") 459)]) #[])),
   (189, (Obj.mk (.type "function") none (.func (FuncData.mk (sO "complement") (sO "CharSet.complement") (parOf (memOf (fnT 6) 14)) (FuncBody.stmts (bodOf (memOf (fnT 6) 14))) (scoOf (memOf (fnT 6) 14)) 3 [] .none .none .none (.str (sO "grammarmill.charset") 250) none (.ref 188) .none 0)) #[])),
   (190, (Obj.mk (.type "tuple") none (.seq #[] 0) #[])),
   (191, (Obj.mk .none none (.fields #[]) #[])),
   (192, (Obj.mk (.type "tuple") none (.seq #[(.str (sO "self") 464), (.str (sO "other") 465)] 0) #[])),
   (193, (Obj.mk (.type "tuple") none (.seq #[] 0) #[])),
   (194, (Obj.mk .none none (.func (FuncData.mk (sO "minus") (sO "CharSet.minus") (parOf (memOf (fnT 6) 15)) (FuncBody.stmts (bodOf (memOf (fnT 6) 15))) (scoOf (memOf (fnT 6) 15)) 0 [] .none .none .none .none none .none .none 0)) #[])),
   (195, (Obj.mk (.type "code") none (.fields #[(.str (sO "minus") 461), (.str (sO "CharSet.minus") 462), (.str (sO "/claim/cut.py") 463), (.int 105 0), (.int 2 0), (.int 0 0), (.int 0 0), (.int 3 0), (.ref 190), (.bool true), (.int 181 0), (.ref 191), .none, (.ref 192), (.ref 193), (.ref 194), (.int 466 0), (.int 105 0), (.str (sO "/claim/cut.py") 467)]) #[])),
   (196, (Obj.mk (.type "function") none (.func (FuncData.mk (sO "minus") (sO "CharSet.minus") (parOf (memOf (fnT 6) 15)) (FuncBody.stmts (bodOf (memOf (fnT 6) 15))) (scoOf (memOf (fnT 6) 15)) 3 [] .none .none .none (.str (sO "grammarmill.charset") 250) none (.ref 195) .none 0)) #[])),
   (197, (Obj.mk (.type "tuple") none (.seq #[] 0) #[])),
   (198, (Obj.mk .none none (.fields #[]) #[])),
   (199, (Obj.mk (.type "tuple") none (.seq #[(.str (sO "self") 472), (.str (sO "other") 473)] 0) #[])),
   (200, (Obj.mk (.type "tuple") none (.seq #[] 0) #[])),
   (201, (Obj.mk .none none (.func (FuncData.mk (sO "same") (sO "CharSet.same") (parOf (memOf (fnT 6) 16)) (FuncBody.stmts (bodOf (memOf (fnT 6) 16))) (scoOf (memOf (fnT 6) 16)) 0 [] .none .none .none .none none .none .none 0)) #[])),
   (202, (Obj.mk (.type "code") none (.fields #[(.str (sO "same") 469), (.str (sO "CharSet.same") 470), (.str (sO "/claim/cut.py") 471), (.int 108 0), (.int 2 0), (.int 0 0), (.int 0 0), (.int 3 0), (.ref 197), (.bool true), (.int 181 0), (.ref 198), .none, (.ref 199), (.ref 200), (.ref 201), (.int 474 0), (.int 108 0), (.str (sO "/claim/cut.py") 475)]) #[])),
   (203, (Obj.mk (.type "function") none (.func (FuncData.mk (sO "same") (sO "CharSet.same") (parOf (memOf (fnT 6) 16)) (FuncBody.stmts (bodOf (memOf (fnT 6) 16))) (scoOf (memOf (fnT 6) 16)) 3 [] .none .none .none (.str (sO "grammarmill.charset") 250) none (.ref 202) .none 0)) #[])),
   (204, (Obj.mk (.type "tuple") none (.seq #[] 0) #[])),
   (205, (Obj.mk .none none (.fields #[]) #[])),
   (206, (Obj.mk (.type "tuple") none (.seq #[(.str (sO "self") 480), (.str (sO "other") 481)] 0) #[])),
   (207, (Obj.mk (.type "tuple") none (.seq #[] 0) #[])),
   (208, (Obj.mk .none none (.func (FuncData.mk (sO "meets") (sO "CharSet.meets") (parOf (memOf (fnT 6) 17)) (FuncBody.stmts (bodOf (memOf (fnT 6) 17))) (scoOf (memOf (fnT 6) 17)) 0 [] .none .none .none .none none .none .none 0)) #[])),
   (209, (Obj.mk (.type "code") none (.fields #[(.str (sO "meets") 477), (.str (sO "CharSet.meets") 478), (.str (sO "/claim/cut.py") 479), (.int 111 0), (.int 2 0), (.int 0 0), (.int 0 0), (.int 3 0), (.ref 204), (.bool true), (.int 181 0), (.ref 205), .none, (.ref 206), (.ref 207), (.ref 208), (.int 482 0), (.int 111 0), (.str (sO "/claim/cut.py") 483)]) #[])),
   (210, (Obj.mk (.type "function") none (.func (FuncData.mk (sO "meets") (sO "CharSet.meets") (parOf (memOf (fnT 6) 17)) (FuncBody.stmts (bodOf (memOf (fnT 6) 17))) (scoOf (memOf (fnT 6) 17)) 3 [] .none .none .none (.str (sO "grammarmill.charset") 250) none (.ref 209) .none 0)) #[])),
   (211, (Obj.mk (.type "tuple") none (.seq #[] 0) #[]))] ++
  [(212, (Obj.mk .none none (.fields #[]) #[])),
   (213, (Obj.mk (.type "tuple") none (.seq #[(.str (sO "self") 488)] 0) #[])),
   (214, (Obj.mk (.type "tuple") none (.seq #[] 0) #[])),
   (215, (Obj.mk .none none (.func (FuncData.mk (sO "folded") (sO "CharSet.folded") (parOf (memOf (fnT 6) 18)) (FuncBody.stmts (bodOf (memOf (fnT 6) 18))) (scoOf (memOf (fnT 6) 18)) 0 [] .none .none .none .none none .none .none 0)) #[])),
   (216, (Obj.mk (.type "code") none (.fields #[(.str (sO "folded") 485), (.str (sO "CharSet.folded") 486), (.str (sO "/claim/cut.py") 487), (.int 114 0), (.int 1 0), (.int 0 0), (.int 0 0), (.int 3 0), (.ref 211), (.bool true), (.int 181 0), (.ref 212), .none, (.ref 213), (.ref 214), (.ref 215), (.int 489 0), (.int 114 0), (.str (sO "/claim/cut.py") 490)]) #[])),
   (217, (Obj.mk (.type "function") none (.func (FuncData.mk (sO "folded") (sO "CharSet.folded") (parOf (memOf (fnT 6) 18)) (FuncBody.stmts (bodOf (memOf (fnT 6) 18))) (scoOf (memOf (fnT 6) 18)) 3 [] .none .none .none (.str (sO "grammarmill.charset") 250) none (.ref 216) .none 0)) #[])),
   (218, (Obj.mk (.type "tuple") none (.seq #[] 0) #[])),
   (219, (Obj.mk .none none (.fields #[]) #[])),
   (220, (Obj.mk (.type "tuple") none (.seq #[(.str (sO "self") 495)] 0) #[])),
   (221, (Obj.mk (.type "tuple") none (.seq #[] 0) #[])),
   (222, (Obj.mk .none none (.func (FuncData.mk (sO "key") (sO "CharSet.key") (parOf (memOf (fnT 6) 19)) (FuncBody.stmts (bodOf (memOf (fnT 6) 19))) (scoOf (memOf (fnT 6) 19)) 0 [] .none .none .none .none none .none .none 0)) #[])),
   (223, (Obj.mk (.type "code") none (.fields #[(.str (sO "key") 492), (.str (sO "CharSet.key") 493), (.str (sO "/claim/cut.py") 494), (.int 117 0), (.int 1 0), (.int 0 0), (.int 0 0), (.int 3 0), (.ref 218), (.bool true), (.int 181 0), (.ref 219), .none, (.ref 220), (.ref 221), (.ref 222), (.int 496 0), (.int 117 0), (.str (sO "/claim/cut.py") 497)]) #[])),
   (224, (Obj.mk (.type "function") none (.func (FuncData.mk (sO "key") (sO "CharSet.key") (parOf (memOf (fnT 6) 19)) (FuncBody.stmts (bodOf (memOf (fnT 6) 19))) (scoOf (memOf (fnT 6) 19)) 3 [] .none .none .none (.str (sO "grammarmill.charset") 250) none (.ref 223) .none 0)) #[])),
   (225, (Obj.mk (.type "tuple") none (.seq #[(.str (sO "spans") 499)] 0) #[])),
   (226, (Obj.mk (.type "dict") none (.dict #[(de P "__module__" 261 (.str (sO "grammarmill.charset") 250)), (de P "__firstlineno__" 265 (.int 20 264)), (de P "__init__" 273 (.ref 75)), (de P "none" 291 (.ref 84)), (de P "every" 309 (.ref 94)), (de P "dot" 327 (.ref 104)), (de P "of" 345 (.ref 112)), (de P "span" 365 (.ref 122)), (de P "made" 390 (.ref 132)), (de P "has" 403 (.ref 140)), (de P "size" 413 (.ref 147)), (de P "codes" 423 (.ref 154)), (de P "least" 430 (.ref 161)), (de P "is_empty" 437 (.ref 168)), (de P "union" 445 (.ref 175)), (de P "meet" 453 (.ref 182)), (de P "complement" 460 (.ref 189)), (de P "minus" 468 (.ref 196)), (de P "same" 476 (.ref 203)), (de P "meets" 484 (.ref 210)), (de P "folded" 491 (.ref 217)), (de P "key" 498 (.ref 224)), (de P "__static_attributes__" 500 (.ref 225)), (de P "__dict__" 502 (.ref 228)), (de P "__weakref__" 504 (.ref 229)), (de P "__doc__" 505 .none)] 4) #[])),
   (227, (Obj.mk (.type "type") none (.cls (ClassData.mk (sO "CharSet") [(.type "object")] [(.ref 227), (.type "object")] 226 (sO "CharSet") true [] [] false none false)) #[none, none, (some (.str (sO "CharSet") 254)), (some (.str (sO "CharSet") 262)), (some (.builtin "object.__new__")), (some (.bool true))])),
   (228, (Obj.mk (.type "getset_descriptor") none (.fields #[(.str (sO "__dict__") 501), (.ref 227), (.builtin "function.__dict__"), (.builtin "function.__dict__#set")]) #[])),
   (229, (Obj.mk (.type "getset_descriptor") none (.fields #[(.str (sO "__weakref__") 503), (.ref 227), (.builtin "ExceptionGroup.__weakref__"), .none]) #[])),
   (230, (Obj.mk (.type "super") none (.fields #[(.ref 227), (.ref 227), (.ref 227)]) #[])),
   (231, (Obj.mk (.type "builtin_function_or_method") none (.fields #[(.builtin "object.__init_subclass__"), (.ref 227)]) #[]))]
noncomputable def upd2 (P : Params) : List (Nat × Obj) :=
  [(3, (Obj.mk (.type "dict") none (.dict #[(de P "__name__" 165 (.str (sO "grammarmill.regex") 508)), (de P "__doc__" 166 .none), (de P "__package__" 167 .none), (de P "__loader__" 168 (.builtin "__main__.__loader__#opaque")), (de P "__spec__" 169 .none), (de P "__annotations__" 170 (.ref 6)), (de P "__builtins__" 171 (.ref 4)), (de P "__file__" 173 (.str (sO "/claim/cut.py") 172)), (de P "__cached__" 174 .none), (de P "_wall" 193 (.ref 21)), (de P "ToolError" 233 (.ref 46)), (de P "RegexError" 249 (.ref 59)), (de P "TOP" 253 (.int 127 252)), (de P "CharSet" 507 (.ref 227)), (de P "MOST_REPEAT" 511 (.int 40 510)), (de P "Node" 547 (.ref 255)), (de P "Empty" 565 (.ref 269)), (de P "Never" 583 (.ref 281)), (de P "Chars" 617 (.ref 307)), (de P "Pair" 661 (.ref 340)), (de P "Cat" 679 (.ref 352))] 21) #[])),
   (12, (Obj.mk .none none (.fields #[(.int 1 0), (.int 0 0), (.ref 20), (.int 5 0), (.int 0 0), (.ref 27), (.int 16 0), (.int 0 0), (.ref 55), (.int 20 0), (.int 0 0), (.ref 67), (.int 121 0), (.int 0 0), (.ref 237), (.int 129 0), (.int 0 0), (.ref 265), (.int 131 0), (.int 0 0), (.ref 277), (.int 133 0), (.int 0 0), (.ref 289), (.int 141 0), (.int 0 0), (.ref 315), (.int 156 0), (.int 0 0), (.ref 348)]) #[])),
   (232, (Obj.mk (.type "tuple") none (.seq #[] 0) #[])),
   (233, (Obj.mk (.type "builtin_function_or_method") none (.fields #[(.builtin "type.__prepare__"), (.type "type")]) #[])),
   (234, (Obj.mk (.type "dict") none (.dict #[(de P "__module__" 519 (.str (sO "grammarmill.regex") 508)), (de P "__qualname__" 521 (.str (sO "Node") 520)), (de P "__firstlineno__" 523 (.int 121 522)), (de P "name" 525 (.str (sO "node") 524)), (de P "parts" 532 (.ref 245)), (de P "told" 539 (.ref 252)), (de P "__static_attributes__" 540 (.ref 253))] 7) #[])),
   (235, (Obj.mk (.type "tuple") none (.seq #[] 0) #[])),
   (236, (Obj.mk .none none (.fields #[(.int 124 0), (.int 4 0), (.ref 244), (.int 127 0), (.int 4 0), (.ref 251)]) #[])),
   (237, (Obj.mk (.type "code") none (.fields #[(.str (sO "Node") 514), (.str (sO "Node") 515), (.str (sO "/claim/cut.py") 516), (.int 121 0), (.int 0 0), (.int 0 0), (.int 0 0), (.int 0 0), (.ref 235), (.bool false), (.int 181 0), (.ref 236), .none, .none, .none, .none, (.int 517 0), (.int 121 0), (.str (sO "/claim/cut.py") 518)]) #[])),
   (238, (Obj.mk (.type "frame") none Data.plain #[(some (.ref 237)), (some (.ref 3)), (some (.ref 234)), none, (some (.str (sO "grammarmill.regex") 508)), none, (some (.ref 0))])),
   (239, (Obj.mk (.type "tuple") none (.seq #[] 0) #[])),
   (240, (Obj.mk .none none (.fields #[]) #[])),
   (241, (Obj.mk (.type "tuple") none (.seq #[(.str (sO "self") 529)] 0) #[])),
   (242, (Obj.mk (.type "tuple") none (.seq #[] 0) #[])),
   (243, (Obj.mk .none none (.func (FuncData.mk (sO "parts") (sO "Node.parts") (parOf (memOf (fnT 9) 1)) (FuncBody.stmts (bodOf (memOf (fnT 9) 1))) (scoOf (memOf (fnT 9) 1)) 0 [] .none .none .none .none none .none .none 0)) #[])),
   (244, (Obj.mk (.type "code") none (.fields #[(.str (sO "parts") 526), (.str (sO "Node.parts") 527), (.str (sO "/claim/cut.py") 528), (.int 124 0), (.int 1 0), (.int 0 0), (.int 0 0), (.int 3 0), (.ref 239), (.bool true), (.int 181 0), (.ref 240), .none, (.ref 241), (.ref 242), (.ref 243), (.int 530 0), (.int 124 0), (.str (sO "/claim/cut.py") 531)]) #[])),
   (245, (Obj.mk (.type "function") none (.func (FuncData.mk (sO "parts") (sO "Node.parts") (parOf (memOf (fnT 9) 1)) (FuncBody.stmts (bodOf (memOf (fnT 9) 1))) (scoOf (memOf (fnT 9) 1)) 3 [] .none .none .none (.str (sO "grammarmill.regex") 508) none (.ref 244) .none 0)) #[])),
   (246, (Obj.mk (.type "tuple") none (.seq #[] 0) #[])),
   (247, (Obj.mk .none none (.fields #[]) #[])),
   (248, (Obj.mk (.type "tuple") none (.seq #[(.str (sO "self") 536)] 0) #[])),
   (249, (Obj.mk (.type "tuple") none (.seq #[] 0) #[])),
   (250, (Obj.mk .none none (.func (FuncData.mk (sO "told") (sO "Node.told") (parOf (memOf (fnT 9) 2)) (FuncBody.stmts (bodOf (memOf (fnT 9) 2))) (scoOf (memOf (fnT 9) 2)) 0 [] .none .none .none .none none .none .none 0)) #[])),
   (251, (Obj.mk (.type "code") none (.fields #[(.str (sO "told") 533), (.str (sO "Node.told") 534), (.str (sO "/claim/cut.py") 535), (.int 127 0), (.int 1 0), (.int 0 0), (.int 0 0), (.int 3 0), (.ref 246), (.bool true), (.int 181 0), (.ref 247), .none, (.ref 248), (.ref 249), (.ref 250), (.int 537 0), (.int 127 0), (.str (sO "/claim/cut.py") 538)]) #[])),
   (252, (Obj.mk (.type "function") none (.func (FuncData.mk (sO "told") (sO "Node.told") (parOf (memOf (fnT 9) 2)) (FuncBody.stmts (bodOf (memOf (fnT 9) 2))) (scoOf (memOf (fnT 9) 2)) 3 [] .none .none .none (.str (sO "grammarmill.regex") 508) none (.ref 251) .none 0)) #[])),
   (253, (Obj.mk (.type "tuple") none (.seq #[] 0) #[])),
   (254, (Obj.mk (.type "dict") none (.dict #[(de P "__module__" 519 (.str (sO "grammarmill.regex") 508)), (de P "__firstlineno__" 523 (.int 121 522)), (de P "name" 525 (.str (sO "node") 524)), (de P "parts" 532 (.ref 245)), (de P "told" 539 (.ref 252)), (de P "__static_attributes__" 540 (.ref 253)), (de P "__dict__" 542 (.ref 256)), (de P "__weakref__" 544 (.ref 257)), (de P "__doc__" 545 .none)] 4) #[])),
   (255, (Obj.mk (.type "type") none (.cls (ClassData.mk (sO "Node") [(.type "object")] [(.ref 255), (.type "object")] 254 (sO "Node") true [] [(.ref 269), (.ref 281), (.ref 307), (.ref 340)] false none false)) #[none, none, (some (.str (sO "Node") 512)), (some (.str (sO "Node") 520)), (some (.builtin "object.__new__")), (some (.bool true))])),
   (256, (Obj.mk (.type "getset_descriptor") none (.fields #[(.str (sO "__dict__") 541), (.ref 255), (.builtin "function.__dict__"), (.builtin "function.__dict__#set")]) #[])),
   (257, (Obj.mk (.type "getset_descriptor") none (.fields #[(.str (sO "__weakref__") 543), (.ref 255), (.builtin "ExceptionGroup.__weakref__"), .none]) #[])),
   (258, (Obj.mk (.type "super") none (.fields #[(.ref 255), (.ref 255), (.ref 255)]) #[])),
   (259, (Obj.mk (.type "builtin_function_or_method") none (.fields #[(.builtin "object.__init_subclass__"), (.ref 255)]) #[])),
   (260, (Obj.mk (.type "tuple") none (.seq #[(.ref 255)] 0) #[])),
   (261, (Obj.mk (.type "builtin_function_or_method") none (.fields #[(.builtin "type.__prepare__"), (.type "type")]) #[])),
   (262, (Obj.mk (.type "dict") none (.dict #[(de P "__module__" 555 (.str (sO "grammarmill.regex") 508)), (de P "__qualname__" 557 (.str (sO "Empty") 556)), (de P "__firstlineno__" 559 (.int 129 558)), (de P "name" 561 (.str (sO "empty") 560)), (de P "__static_attributes__" 562 (.ref 267))] 5) #[])),
   (263, (Obj.mk (.type "tuple") none (.seq #[] 0) #[])),
   (264, (Obj.mk .none none (.fields #[]) #[])),
   (265, (Obj.mk (.type "code") none (.fields #[(.str (sO "Empty") 550), (.str (sO "Empty") 551), (.str (sO "/claim/cut.py") 552), (.int 129 0), (.int 0 0), (.int 0 0), (.int 0 0), (.int 0 0), (.ref 263), (.bool false), (.int 181 0), (.ref 264), .none, .none, .none, .none, (.int 553 0), (.int 129 0), (.str (sO "/claim/cut.py") 554)]) #[])),
   (266, (Obj.mk (.type "frame") none Data.plain #[(some (.ref 265)), (some (.ref 3)), (some (.ref 262)), none, (some (.str (sO "grammarmill.regex") 508)), none, (some (.ref 0))])),
   (267, (Obj.mk (.type "tuple") none (.seq #[] 0) #[])),
   (268, (Obj.mk (.type "dict") none (.dict #[(de P "__module__" 555 (.str (sO "grammarmill.regex") 508)), (de P "__firstlineno__" 559 (.int 129 558)), (de P "name" 561 (.str (sO "empty") 560)), (de P "__static_attributes__" 562 (.ref 267)), (de P "__doc__" 563 .none)] 2) #[])),
   (269, (Obj.mk (.type "type") none (.cls (ClassData.mk (sO "Empty") [(.ref 255)] [(.ref 269), (.ref 255), (.type "object")] 268 (sO "Empty") true [] [] false none false)) #[(some (.ref 260)), none, (some (.str (sO "Empty") 548)), (some (.str (sO "Empty") 556)), (some (.builtin "object.__new__")), (some (.bool true))])),
   (270, (Obj.mk (.type "super") none (.fields #[(.ref 269), (.ref 269), (.ref 269)]) #[])),
   (271, (Obj.mk (.type "builtin_function_or_method") none (.fields #[(.builtin "object.__init_subclass__"), (.ref 269)]) #[])),
   (272, (Obj.mk (.type "tuple") none (.seq #[(.ref 255)] 0) #[])),
   (273, (Obj.mk (.type "builtin_function_or_method") none (.fields #[(.builtin "type.__prepare__"), (.type "type")]) #[])),
   (274, (Obj.mk (.type "dict") none (.dict #[(de P "__module__" 573 (.str (sO "grammarmill.regex") 508)), (de P "__qualname__" 575 (.str (sO "Never") 574)), (de P "__firstlineno__" 577 (.int 131 576)), (de P "name" 579 (.str (sO "never") 578)), (de P "__static_attributes__" 580 (.ref 279))] 5) #[])),
   (275, (Obj.mk (.type "tuple") none (.seq #[] 0) #[])),
   (276, (Obj.mk .none none (.fields #[]) #[])),
   (277, (Obj.mk (.type "code") none (.fields #[(.str (sO "Never") 568), (.str (sO "Never") 569), (.str (sO "/claim/cut.py") 570), (.int 131 0), (.int 0 0), (.int 0 0), (.int 0 0), (.int 0 0), (.ref 275), (.bool false), (.int 181 0), (.ref 276), .none, .none, .none, .none, (.int 571 0), (.int 131 0), (.str (sO "/claim/cut.py") 572)]) #[])),
   (278, (Obj.mk (.type "frame") none Data.plain #[(some (.ref 277)), (some (.ref 3)), (some (.ref 274)), none, (some (.str (sO "grammarmill.regex") 508)), none, (some (.ref 0))])),
   (279, (Obj.mk (.type "tuple") none (.seq #[] 0) #[]))] ++
  [(280, (Obj.mk (.type "dict") none (.dict #[(de P "__module__" 573 (.str (sO "grammarmill.regex") 508)), (de P "__firstlineno__" 577 (.int 131 576)), (de P "name" 579 (.str (sO "never") 578)), (de P "__static_attributes__" 580 (.ref 279)), (de P "__doc__" 581 .none)] 2) #[])),
   (281, (Obj.mk (.type "type") none (.cls (ClassData.mk (sO "Never") [(.ref 255)] [(.ref 281), (.ref 255), (.type "object")] 280 (sO "Never") true [] [] false none false)) #[(some (.ref 272)), none, (some (.str (sO "Never") 566)), (some (.str (sO "Never") 574)), (some (.builtin "object.__new__")), (some (.bool true))])),
   (282, (Obj.mk (.type "super") none (.fields #[(.ref 281), (.ref 281), (.ref 281)]) #[])),
   (283, (Obj.mk (.type "builtin_function_or_method") none (.fields #[(.builtin "object.__init_subclass__"), (.ref 281)]) #[])),
   (284, (Obj.mk (.type "tuple") none (.seq #[(.ref 255)] 0) #[])),
   (285, (Obj.mk (.type "builtin_function_or_method") none (.fields #[(.builtin "type.__prepare__"), (.type "type")]) #[])),
   (286, (Obj.mk (.type "dict") none (.dict #[(de P "__module__" 591 (.str (sO "grammarmill.regex") 508)), (de P "__qualname__" 593 (.str (sO "Chars") 592)), (de P "__firstlineno__" 595 (.int 133 594)), (de P "name" 597 (.str (sO "chars") 596)), (de P "__init__" 605 (.ref 297)), (de P "told" 612 (.ref 304)), (de P "__static_attributes__" 614 (.ref 305))] 7) #[])),
   (287, (Obj.mk (.type "tuple") none (.seq #[] 0) #[])),
   (288, (Obj.mk .none none (.fields #[(.int 136 0), (.int 4 0), (.ref 296), (.int 139 0), (.int 4 0), (.ref 303)]) #[])),
   (289, (Obj.mk (.type "code") none (.fields #[(.str (sO "Chars") 586), (.str (sO "Chars") 587), (.str (sO "/claim/cut.py") 588), (.int 133 0), (.int 0 0), (.int 0 0), (.int 0 0), (.int 0 0), (.ref 287), (.bool false), (.int 181 0), (.ref 288), .none, .none, .none, .none, (.int 589 0), (.int 133 0), (.str (sO "/claim/cut.py") 590)]) #[])),
   (290, (Obj.mk (.type "frame") none Data.plain #[(some (.ref 289)), (some (.ref 3)), (some (.ref 286)), none, (some (.str (sO "grammarmill.regex") 508)), none, (some (.ref 0))])),
   (291, (Obj.mk (.type "tuple") none (.seq #[] 0) #[])),
   (292, (Obj.mk .none none (.fields #[]) #[])),
   (293, (Obj.mk (.type "tuple") none (.seq #[(.str (sO "self") 601), (.str (sO "charset") 602)] 0) #[])),
   (294, (Obj.mk (.type "tuple") none (.seq #[] 0) #[])),
   (295, (Obj.mk .none none (.func (FuncData.mk (sO "__init__") (sO "Chars.__init__") (parOf (memOf (fnT 12) 1)) (FuncBody.stmts (bodOf (memOf (fnT 12) 1))) (scoOf (memOf (fnT 12) 1)) 0 [] .none .none .none .none none .none .none 0)) #[])),
   (296, (Obj.mk (.type "code") none (.fields #[(.str (sO "__init__") 598), (.str (sO "Chars.__init__") 599), (.str (sO "/claim/cut.py") 600), (.int 136 0), (.int 2 0), (.int 0 0), (.int 0 0), (.int 3 0), (.ref 291), (.bool true), (.int 181 0), (.ref 292), .none, (.ref 293), (.ref 294), (.ref 295), (.int 603 0), (.int 136 0), (.str (sO "/claim/cut.py") 604)]) #[])),
   (297, (Obj.mk (.type "function") none (.func (FuncData.mk (sO "__init__") (sO "Chars.__init__") (parOf (memOf (fnT 12) 1)) (FuncBody.stmts (bodOf (memOf (fnT 12) 1))) (scoOf (memOf (fnT 12) 1)) 3 [] .none .none .none (.str (sO "grammarmill.regex") 508) none (.ref 296) .none 0)) #[])),
   (298, (Obj.mk (.type "tuple") none (.seq #[] 0) #[])),
   (299, (Obj.mk .none none (.fields #[]) #[])),
   (300, (Obj.mk (.type "tuple") none (.seq #[(.str (sO "self") 609)] 0) #[])),
   (301, (Obj.mk (.type "tuple") none (.seq #[] 0) #[])),
   (302, (Obj.mk .none none (.func (FuncData.mk (sO "told") (sO "Chars.told") (parOf (memOf (fnT 12) 2)) (FuncBody.stmts (bodOf (memOf (fnT 12) 2))) (scoOf (memOf (fnT 12) 2)) 0 [] .none .none .none .none none .none .none 0)) #[])),
   (303, (Obj.mk (.type "code") none (.fields #[(.str (sO "told") 606), (.str (sO "Chars.told") 607), (.str (sO "/claim/cut.py") 608), (.int 139 0), (.int 1 0), (.int 0 0), (.int 0 0), (.int 3 0), (.ref 298), (.bool true), (.int 181 0), (.ref 299), .none, (.ref 300), (.ref 301), (.ref 302), (.int 610 0), (.int 139 0), (.str (sO "/claim/cut.py") 611)]) #[])),
   (304, (Obj.mk (.type "function") none (.func (FuncData.mk (sO "told") (sO "Chars.told") (parOf (memOf (fnT 12) 2)) (FuncBody.stmts (bodOf (memOf (fnT 12) 2))) (scoOf (memOf (fnT 12) 2)) 3 [] .none .none .none (.str (sO "grammarmill.regex") 508) none (.ref 303) .none 0)) #[])),
   (305, (Obj.mk (.type "tuple") none (.seq #[(.str (sO "charset") 613)] 0) #[])),
   (306, (Obj.mk (.type "dict") none (.dict #[(de P "__module__" 591 (.str (sO "grammarmill.regex") 508)), (de P "__firstlineno__" 595 (.int 133 594)), (de P "name" 597 (.str (sO "chars") 596)), (de P "__init__" 605 (.ref 297)), (de P "told" 612 (.ref 304)), (de P "__static_attributes__" 614 (.ref 305)), (de P "__doc__" 615 .none)] 2) #[])),
   (307, (Obj.mk (.type "type") none (.cls (ClassData.mk (sO "Chars") [(.ref 255)] [(.ref 307), (.ref 255), (.type "object")] 306 (sO "Chars") true [] [] false none false)) #[(some (.ref 284)), none, (some (.str (sO "Chars") 584)), (some (.str (sO "Chars") 592)), (some (.builtin "object.__new__")), (some (.bool true))])),
   (308, (Obj.mk (.type "super") none (.fields #[(.ref 307), (.ref 307), (.ref 307)]) #[])),
   (309, (Obj.mk (.type "builtin_function_or_method") none (.fields #[(.builtin "object.__init_subclass__"), (.ref 307)]) #[])),
   (310, (Obj.mk (.type "tuple") none (.seq #[(.ref 255)] 0) #[])),
   (311, (Obj.mk (.type "builtin_function_or_method") none (.fields #[(.builtin "type.__prepare__"), (.type "type")]) #[])),
   (312, (Obj.mk (.type "dict") none (.dict #[(de P "__module__" 625 (.str (sO "grammarmill.regex") 508)), (de P "__qualname__" 627 (.str (sO "Pair") 626)), (de P "__firstlineno__" 629 (.int 141 628)), (de P "__init__" 638 (.ref 323)), (de P "parts" 645 (.ref 330)), (de P "told" 655 (.ref 337)), (de P "__static_attributes__" 658 (.ref 338))] 7) #[])),
   (313, (Obj.mk (.type "tuple") none (.seq #[] 0) #[])),
   (314, (Obj.mk .none none (.fields #[(.int 143 0), (.int 4 0), (.ref 322), (.int 147 0), (.int 4 0), (.ref 329), (.int 150 0), (.int 4 0), (.ref 336)]) #[])),
   (315, (Obj.mk (.type "code") none (.fields #[(.str (sO "Pair") 620), (.str (sO "Pair") 621), (.str (sO "/claim/cut.py") 622), (.int 141 0), (.int 0 0), (.int 0 0), (.int 0 0), (.int 0 0), (.ref 313), (.bool false), (.int 181 0), (.ref 314), .none, .none, .none, .none, (.int 623 0), (.int 141 0), (.str (sO "/claim/cut.py") 624)]) #[])),
   (316, (Obj.mk (.type "frame") none Data.plain #[(some (.ref 315)), (some (.ref 3)), (some (.ref 312)), none, (some (.str (sO "grammarmill.regex") 508)), none, (some (.ref 0))])),
   (317, (Obj.mk (.type "tuple") none (.seq #[] 0) #[])),
   (318, (Obj.mk .none none (.fields #[]) #[])),
   (319, (Obj.mk (.type "tuple") none (.seq #[(.str (sO "self") 633), (.str (sO "left") 634), (.str (sO "right") 635)] 0) #[])),
   (320, (Obj.mk (.type "tuple") none (.seq #[] 0) #[])),
   (321, (Obj.mk .none none (.func (FuncData.mk (sO "__init__") (sO "Pair.__init__") (parOf (memOf (fnT 13) 0)) (FuncBody.stmts (bodOf (memOf (fnT 13) 0))) (scoOf (memOf (fnT 13) 0)) 0 [] .none .none .none .none none .none .none 0)) #[])),
   (322, (Obj.mk (.type "code") none (.fields #[(.str (sO "__init__") 630), (.str (sO "Pair.__init__") 631), (.str (sO "/claim/cut.py") 632), (.int 143 0), (.int 3 0), (.int 0 0), (.int 0 0), (.int 3 0), (.ref 317), (.bool true), (.int 181 0), (.ref 318), .none, (.ref 319), (.ref 320), (.ref 321), (.int 636 0), (.int 143 0), (.str (sO "/claim/cut.py") 637)]) #[])),
   (323, (Obj.mk (.type "function") none (.func (FuncData.mk (sO "__init__") (sO "Pair.__init__") (parOf (memOf (fnT 13) 0)) (FuncBody.stmts (bodOf (memOf (fnT 13) 0))) (scoOf (memOf (fnT 13) 0)) 3 [] .none .none .none (.str (sO "grammarmill.regex") 508) none (.ref 322) .none 0)) #[])),
   (324, (Obj.mk (.type "tuple") none (.seq #[] 0) #[])),
   (325, (Obj.mk .none none (.fields #[]) #[])),
   (326, (Obj.mk (.type "tuple") none (.seq #[(.str (sO "self") 642)] 0) #[])),
   (327, (Obj.mk (.type "tuple") none (.seq #[] 0) #[])),
   (328, (Obj.mk .none none (.func (FuncData.mk (sO "parts") (sO "Pair.parts") (parOf (memOf (fnT 13) 1)) (FuncBody.stmts (bodOf (memOf (fnT 13) 1))) (scoOf (memOf (fnT 13) 1)) 0 [] .none .none .none .none none .none .none 0)) #[])),
   (329, (Obj.mk (.type "code") none (.fields #[(.str (sO "parts") 639), (.str (sO "Pair.parts") 640), (.str (sO "/claim/cut.py") 641), (.int 147 0), (.int 1 0), (.int 0 0), (.int 0 0), (.int 3 0), (.ref 324), (.bool true), (.int 181 0), (.ref 325), .none, (.ref 326), (.ref 327), (.ref 328), (.int 643 0), (.int 147 0), (.str (sO "/claim/cut.py") 644)]) #[]))] ++
  [(330, (Obj.mk (.type "function") none (.func (FuncData.mk (sO "parts") (sO "Pair.parts") (parOf (memOf (fnT 13) 1)) (FuncBody.stmts (bodOf (memOf (fnT 13) 1))) (scoOf (memOf (fnT 13) 1)) 3 [] .none .none .none (.str (sO "grammarmill.regex") 508) none (.ref 329) .none 0)) #[])),
   (331, (Obj.mk (.type "tuple") none (.seq #[] 0) #[])),
   (332, (Obj.mk .none none (.fields #[]) #[])),
   (333, (Obj.mk (.type "tuple") none (.seq #[(.str (sO "self") 649), (.str (sO "row") 650), (.str (sO "text") 651), (.str (sO "part") 652)] 0) #[])),
   (334, (Obj.mk (.type "tuple") none (.seq #[] 0) #[])),
   (335, (Obj.mk .none none (.func (FuncData.mk (sO "told") (sO "Pair.told") (parOf (memOf (fnT 13) 2)) (FuncBody.stmts (bodOf (memOf (fnT 13) 2))) (scoOf (memOf (fnT 13) 2)) 0 [] .none .none .none .none none .none .none 0)) #[])),
   (336, (Obj.mk (.type "code") none (.fields #[(.str (sO "told") 646), (.str (sO "Pair.told") 647), (.str (sO "/claim/cut.py") 648), (.int 150 0), (.int 1 0), (.int 0 0), (.int 0 0), (.int 3 0), (.ref 331), (.bool true), (.int 181 0), (.ref 332), .none, (.ref 333), (.ref 334), (.ref 335), (.int 653 0), (.int 150 0), (.str (sO "/claim/cut.py") 654)]) #[])),
   (337, (Obj.mk (.type "function") none (.func (FuncData.mk (sO "told") (sO "Pair.told") (parOf (memOf (fnT 13) 2)) (FuncBody.stmts (bodOf (memOf (fnT 13) 2))) (scoOf (memOf (fnT 13) 2)) 3 [] .none .none .none (.str (sO "grammarmill.regex") 508) none (.ref 336) .none 0)) #[])),
   (338, (Obj.mk (.type "tuple") none (.seq #[(.str (sO "left") 656), (.str (sO "right") 657)] 0) #[])),
   (339, (Obj.mk (.type "dict") none (.dict #[(de P "__module__" 625 (.str (sO "grammarmill.regex") 508)), (de P "__firstlineno__" 629 (.int 141 628)), (de P "__init__" 638 (.ref 323)), (de P "parts" 645 (.ref 330)), (de P "told" 655 (.ref 337)), (de P "__static_attributes__" 658 (.ref 338)), (de P "__doc__" 659 .none)] 2) #[])),
   (340, (Obj.mk (.type "type") none (.cls (ClassData.mk (sO "Pair") [(.ref 255)] [(.ref 340), (.ref 255), (.type "object")] 339 (sO "Pair") true [] [(.ref 352)] false none false)) #[(some (.ref 310)), none, (some (.str (sO "Pair") 618)), (some (.str (sO "Pair") 626)), (some (.builtin "object.__new__")), (some (.bool true))])),
   (341, (Obj.mk (.type "super") none (.fields #[(.ref 340), (.ref 340), (.ref 340)]) #[])),
   (342, (Obj.mk (.type "builtin_function_or_method") none (.fields #[(.builtin "object.__init_subclass__"), (.ref 340)]) #[])),
   (343, (Obj.mk (.type "tuple") none (.seq #[(.ref 340)] 0) #[])),
   (344, (Obj.mk (.type "builtin_function_or_method") none (.fields #[(.builtin "type.__prepare__"), (.type "type")]) #[])),
   (345, (Obj.mk (.type "dict") none (.dict #[(de P "__module__" 669 (.str (sO "grammarmill.regex") 508)), (de P "__qualname__" 671 (.str (sO "Cat") 670)), (de P "__firstlineno__" 673 (.int 156 672)), (de P "name" 675 (.str (sO "cat") 674)), (de P "__static_attributes__" 676 (.ref 350))] 5) #[])),
   (346, (Obj.mk (.type "tuple") none (.seq #[] 0) #[])),
   (347, (Obj.mk .none none (.fields #[]) #[])),
   (348, (Obj.mk (.type "code") none (.fields #[(.str (sO "Cat") 664), (.str (sO "Cat") 665), (.str (sO "/claim/cut.py") 666), (.int 156 0), (.int 0 0), (.int 0 0), (.int 0 0), (.int 0 0), (.ref 346), (.bool false), (.int 181 0), (.ref 347), .none, .none, .none, .none, (.int 667 0), (.int 156 0), (.str (sO "/claim/cut.py") 668)]) #[])),
   (349, (Obj.mk (.type "frame") none Data.plain #[(some (.ref 348)), (some (.ref 3)), (some (.ref 345)), none, (some (.str (sO "grammarmill.regex") 508)), none, (some (.ref 0))])),
   (350, (Obj.mk (.type "tuple") none (.seq #[] 0) #[])),
   (351, (Obj.mk (.type "dict") none (.dict #[(de P "__module__" 669 (.str (sO "grammarmill.regex") 508)), (de P "__firstlineno__" 673 (.int 156 672)), (de P "name" 675 (.str (sO "cat") 674)), (de P "__static_attributes__" 676 (.ref 350)), (de P "__doc__" 677 .none)] 2) #[])),
   (352, (Obj.mk (.type "type") none (.cls (ClassData.mk (sO "Cat") [(.ref 340)] [(.ref 352), (.ref 340), (.ref 255), (.type "object")] 351 (sO "Cat") true [] [] false none false)) #[(some (.ref 343)), none, (some (.str (sO "Cat") 662)), (some (.str (sO "Cat") 670)), (some (.builtin "object.__new__")), (some (.bool true))])),
   (353, (Obj.mk (.type "super") none (.fields #[(.ref 352), (.ref 352), (.ref 352)]) #[])),
   (354, (Obj.mk (.type "builtin_function_or_method") none (.fields #[(.builtin "object.__init_subclass__"), (.ref 352)]) #[]))]
noncomputable def upd3 (P : Params) : List (Nat × Obj) :=
  [(3, (Obj.mk (.type "dict") none (.dict #[(de P "__name__" 165 (.str (sO "grammarmill.regex") 508)), (de P "__doc__" 166 .none), (de P "__package__" 167 .none), (de P "__loader__" 168 (.builtin "__main__.__loader__#opaque")), (de P "__spec__" 169 .none), (de P "__annotations__" 170 (.ref 6)), (de P "__builtins__" 171 (.ref 4)), (de P "__file__" 173 (.str (sO "/claim/cut.py") 172)), (de P "__cached__" 174 .none), (de P "_wall" 193 (.ref 21)), (de P "ToolError" 233 (.ref 46)), (de P "RegexError" 249 (.ref 59)), (de P "TOP" 253 (.int 127 252)), (de P "CharSet" 507 (.ref 227)), (de P "MOST_REPEAT" 511 (.int 40 510)), (de P "Node" 547 (.ref 255)), (de P "Empty" 565 (.ref 269)), (de P "Never" 583 (.ref 281)), (de P "Chars" 617 (.ref 307)), (de P "Pair" 661 (.ref 340)), (de P "Cat" 679 (.ref 352)), (de P "Alt" 697 (.ref 364)), (de P "Loop" 736 (.ref 397)), (de P "Star" 754 (.ref 409)), (de P "Plus" 772 (.ref 421)), (de P "Opt" 790 (.ref 433)), (de P "Repeat" 827 (.ref 459))] 27) #[])),
   (12, (Obj.mk .none none (.fields #[(.int 1 0), (.int 0 0), (.ref 20), (.int 5 0), (.int 0 0), (.ref 27), (.int 16 0), (.int 0 0), (.ref 55), (.int 20 0), (.int 0 0), (.ref 67), (.int 121 0), (.int 0 0), (.ref 237), (.int 129 0), (.int 0 0), (.ref 265), (.int 131 0), (.int 0 0), (.ref 277), (.int 133 0), (.int 0 0), (.ref 289), (.int 141 0), (.int 0 0), (.ref 315), (.int 156 0), (.int 0 0), (.ref 348), (.int 158 0), (.int 0 0), (.ref 360), (.int 160 0), (.int 0 0), (.ref 372), (.int 170 0), (.int 0 0), (.ref 405), (.int 172 0), (.int 0 0), (.ref 417), (.int 174 0), (.int 0 0), (.ref 429), (.int 176 0), (.int 0 0), (.ref 441)]) #[])),
   (255, (Obj.mk (.type "type") none (.cls (ClassData.mk (sO "Node") [(.type "object")] [(.ref 255), (.type "object")] 254 (sO "Node") true [] [(.ref 269), (.ref 281), (.ref 307), (.ref 340), (.ref 397)] false none false)) #[none, none, (some (.str (sO "Node") 512)), (some (.str (sO "Node") 520)), (some (.builtin "object.__new__")), (some (.bool true))])),
   (340, (Obj.mk (.type "type") none (.cls (ClassData.mk (sO "Pair") [(.ref 255)] [(.ref 340), (.ref 255), (.type "object")] 339 (sO "Pair") true [] [(.ref 352), (.ref 364)] false none false)) #[(some (.ref 310)), none, (some (.str (sO "Pair") 618)), (some (.str (sO "Pair") 626)), (some (.builtin "object.__new__")), (some (.bool true))])),
   (355, (Obj.mk (.type "tuple") none (.seq #[(.ref 340)] 0) #[])),
   (356, (Obj.mk (.type "builtin_function_or_method") none (.fields #[(.builtin "type.__prepare__"), (.type "type")]) #[])),
   (357, (Obj.mk (.type "dict") none (.dict #[(de P "__module__" 687 (.str (sO "grammarmill.regex") 508)), (de P "__qualname__" 689 (.str (sO "Alt") 688)), (de P "__firstlineno__" 691 (.int 158 690)), (de P "name" 693 (.str (sO "alt") 692)), (de P "__static_attributes__" 694 (.ref 362))] 5) #[])),
   (358, (Obj.mk (.type "tuple") none (.seq #[] 0) #[])),
   (359, (Obj.mk .none none (.fields #[]) #[])),
   (360, (Obj.mk (.type "code") none (.fields #[(.str (sO "Alt") 682), (.str (sO "Alt") 683), (.str (sO "/claim/cut.py") 684), (.int 158 0), (.int 0 0), (.int 0 0), (.int 0 0), (.int 0 0), (.ref 358), (.bool false), (.int 181 0), (.ref 359), .none, .none, .none, .none, (.int 685 0), (.int 158 0), (.str (sO "/claim/cut.py") 686)]) #[])),
   (361, (Obj.mk (.type "frame") none Data.plain #[(some (.ref 360)), (some (.ref 3)), (some (.ref 357)), none, (some (.str (sO "grammarmill.regex") 508)), none, (some (.ref 0))])),
   (362, (Obj.mk (.type "tuple") none (.seq #[] 0) #[])),
   (363, (Obj.mk (.type "dict") none (.dict #[(de P "__module__" 687 (.str (sO "grammarmill.regex") 508)), (de P "__firstlineno__" 691 (.int 158 690)), (de P "name" 693 (.str (sO "alt") 692)), (de P "__static_attributes__" 694 (.ref 362)), (de P "__doc__" 695 .none)] 2) #[])),
   (364, (Obj.mk (.type "type") none (.cls (ClassData.mk (sO "Alt") [(.ref 340)] [(.ref 364), (.ref 340), (.ref 255), (.type "object")] 363 (sO "Alt") true [] [] false none false)) #[(some (.ref 355)), none, (some (.str (sO "Alt") 680)), (some (.str (sO "Alt") 688)), (some (.builtin "object.__new__")), (some (.bool true))])),
   (365, (Obj.mk (.type "super") none (.fields #[(.ref 364), (.ref 364), (.ref 364)]) #[])),
   (366, (Obj.mk (.type "builtin_function_or_method") none (.fields #[(.builtin "object.__init_subclass__"), (.ref 364)]) #[])),
   (367, (Obj.mk (.type "tuple") none (.seq #[(.ref 255)] 0) #[])),
   (368, (Obj.mk (.type "builtin_function_or_method") none (.fields #[(.builtin "type.__prepare__"), (.type "type")]) #[])),
   (369, (Obj.mk (.type "dict") none (.dict #[(de P "__module__" 705 (.str (sO "grammarmill.regex") 508)), (de P "__qualname__" 707 (.str (sO "Loop") 706)), (de P "__firstlineno__" 709 (.int 160 708)), (de P "__init__" 717 (.ref 380)), (de P "parts" 724 (.ref 387)), (de P "told" 731 (.ref 394)), (de P "__static_attributes__" 733 (.ref 395))] 7) #[])),
   (370, (Obj.mk (.type "tuple") none (.seq #[] 0) #[])),
   (371, (Obj.mk .none none (.fields #[(.int 162 0), (.int 4 0), (.ref 379), (.int 165 0), (.int 4 0), (.ref 386), (.int 168 0), (.int 4 0), (.ref 393)]) #[])),
   (372, (Obj.mk (.type "code") none (.fields #[(.str (sO "Loop") 700), (.str (sO "Loop") 701), (.str (sO "/claim/cut.py") 702), (.int 160 0), (.int 0 0), (.int 0 0), (.int 0 0), (.int 0 0), (.ref 370), (.bool false), (.int 181 0), (.ref 371), .none, .none, .none, .none, (.int 703 0), (.int 160 0), (.str (sO "/claim/cut.py") 704)]) #[])),
   (373, (Obj.mk (.type "frame") none Data.plain #[(some (.ref 372)), (some (.ref 3)), (some (.ref 369)), none, (some (.str (sO "grammarmill.regex") 508)), none, (some (.ref 0))])),
   (374, (Obj.mk (.type "tuple") none (.seq #[] 0) #[])),
   (375, (Obj.mk .none none (.fields #[]) #[])),
   (376, (Obj.mk (.type "tuple") none (.seq #[(.str (sO "self") 713), (.str (sO "body") 714)] 0) #[])),
   (377, (Obj.mk (.type "tuple") none (.seq #[] 0) #[])),
   (378, (Obj.mk .none none (.func (FuncData.mk (sO "__init__") (sO "Loop.__init__") (parOf (memOf (fnT 16) 0)) (FuncBody.stmts (bodOf (memOf (fnT 16) 0))) (scoOf (memOf (fnT 16) 0)) 0 [] .none .none .none .none none .none .none 0)) #[])),
   (379, (Obj.mk (.type "code") none (.fields #[(.str (sO "__init__") 710), (.str (sO "Loop.__init__") 711), (.str (sO "/claim/cut.py") 712), (.int 162 0), (.int 2 0), (.int 0 0), (.int 0 0), (.int 3 0), (.ref 374), (.bool true), (.int 181 0), (.ref 375), .none, (.ref 376), (.ref 377), (.ref 378), (.int 715 0), (.int 162 0), (.str (sO "/claim/cut.py") 716)]) #[])),
   (380, (Obj.mk (.type "function") none (.func (FuncData.mk (sO "__init__") (sO "Loop.__init__") (parOf (memOf (fnT 16) 0)) (FuncBody.stmts (bodOf (memOf (fnT 16) 0))) (scoOf (memOf (fnT 16) 0)) 3 [] .none .none .none (.str (sO "grammarmill.regex") 508) none (.ref 379) .none 0)) #[])),
   (381, (Obj.mk (.type "tuple") none (.seq #[] 0) #[])),
   (382, (Obj.mk .none none (.fields #[]) #[])),
   (383, (Obj.mk (.type "tuple") none (.seq #[(.str (sO "self") 721)] 0) #[])),
   (384, (Obj.mk (.type "tuple") none (.seq #[] 0) #[])),
   (385, (Obj.mk .none none (.func (FuncData.mk (sO "parts") (sO "Loop.parts") (parOf (memOf (fnT 16) 1)) (FuncBody.stmts (bodOf (memOf (fnT 16) 1))) (scoOf (memOf (fnT 16) 1)) 0 [] .none .none .none .none none .none .none 0)) #[])),
   (386, (Obj.mk (.type "code") none (.fields #[(.str (sO "parts") 718), (.str (sO "Loop.parts") 719), (.str (sO "/claim/cut.py") 720), (.int 165 0), (.int 1 0), (.int 0 0), (.int 0 0), (.int 3 0), (.ref 381), (.bool true), (.int 181 0), (.ref 382), .none, (.ref 383), (.ref 384), (.ref 385), (.int 722 0), (.int 165 0), (.str (sO "/claim/cut.py") 723)]) #[])),
   (387, (Obj.mk (.type "function") none (.func (FuncData.mk (sO "parts") (sO "Loop.parts") (parOf (memOf (fnT 16) 1)) (FuncBody.stmts (bodOf (memOf (fnT 16) 1))) (scoOf (memOf (fnT 16) 1)) 3 [] .none .none .none (.str (sO "grammarmill.regex") 508) none (.ref 386) .none 0)) #[])),
   (388, (Obj.mk (.type "tuple") none (.seq #[] 0) #[])),
   (389, (Obj.mk .none none (.fields #[]) #[])),
   (390, (Obj.mk (.type "tuple") none (.seq #[(.str (sO "self") 728)] 0) #[])),
   (391, (Obj.mk (.type "tuple") none (.seq #[] 0) #[])),
   (392, (Obj.mk .none none (.func (FuncData.mk (sO "told") (sO "Loop.told") (parOf (memOf (fnT 16) 2)) (FuncBody.stmts (bodOf (memOf (fnT 16) 2))) (scoOf (memOf (fnT 16) 2)) 0 [] .none .none .none .none none .none .none 0)) #[])),
   (393, (Obj.mk (.type "code") none (.fields #[(.str (sO "told") 725), (.str (sO "Loop.told") 726), (.str (sO "/claim/cut.py") 727), (.int 168 0), (.int 1 0), (.int 0 0), (.int 0 0), (.int 3 0), (.ref 388), (.bool true), (.int 181 0), (.ref 389), .none, (.ref 390), (.ref 391), (.ref 392), (.int 729 0), (.int 168 0), (.str (sO "/claim/cut.py") 730)]) #[])),
   (394, (Obj.mk (.type "function") none (.func (FuncData.mk (sO "told") (sO "Loop.told") (parOf (memOf (fnT 16) 2)) (FuncBody.stmts (bodOf (memOf (fnT 16) 2))) (scoOf (memOf (fnT 16) 2)) 3 [] .none .none .none (.str (sO "grammarmill.regex") 508) none (.ref 393) .none 0)) #[])),
   (395, (Obj.mk (.type "tuple") none (.seq #[(.str (sO "body") 732)] 0) #[])),
   (396, (Obj.mk (.type "dict") none (.dict #[(de P "__module__" 705 (.str (sO "grammarmill.regex") 508)), (de P "__firstlineno__" 709 (.int 160 708)), (de P "__init__" 717 (.ref 380)), (de P "parts" 724 (.ref 387)), (de P "told" 731 (.ref 394)), (de P "__static_attributes__" 733 (.ref 395)), (de P "__doc__" 734 .none)] 2) #[])),
   (397, (Obj.mk (.type "type") none (.cls (ClassData.mk (sO "Loop") [(.ref 255)] [(.ref 397), (.ref 255), (.type "object")] 396 (sO "Loop") true [] [(.ref 409), (.ref 421), (.ref 433), (.ref 459)] false none false)) #[(some (.ref 367)), none, (some (.str (sO "Loop") 698)), (some (.str (sO "Loop") 706)), (some (.builtin "object.__new__")), (some (.bool true))])),
   (398, (Obj.mk (.type "super") none (.fields #[(.ref 397), (.ref 397), (.ref 397)]) #[])),
   (399, (Obj.mk (.type "builtin_function_or_method") none (.fields #[(.builtin "object.__init_subclass__"), (.ref 397)]) #[])),
   (400, (Obj.mk (.type "tuple") none (.seq #[(.ref 397)] 0) #[]))] ++
  [(401, (Obj.mk (.type "builtin_function_or_method") none (.fields #[(.builtin "type.__prepare__"), (.type "type")]) #[])),
   (402, (Obj.mk (.type "dict") none (.dict #[(de P "__module__" 744 (.str (sO "grammarmill.regex") 508)), (de P "__qualname__" 746 (.str (sO "Star") 745)), (de P "__firstlineno__" 748 (.int 170 747)), (de P "name" 750 (.str (sO "star") 749)), (de P "__static_attributes__" 751 (.ref 407))] 5) #[])),
   (403, (Obj.mk (.type "tuple") none (.seq #[] 0) #[])),
   (404, (Obj.mk .none none (.fields #[]) #[])),
   (405, (Obj.mk (.type "code") none (.fields #[(.str (sO "Star") 739), (.str (sO "Star") 740), (.str (sO "/claim/cut.py") 741), (.int 170 0), (.int 0 0), (.int 0 0), (.int 0 0), (.int 0 0), (.ref 403), (.bool false), (.int 181 0), (.ref 404), .none, .none, .none, .none, (.int 742 0), (.int 170 0), (.str (sO "/claim/cut.py") 743)]) #[])),
   (406, (Obj.mk (.type "frame") none Data.plain #[(some (.ref 405)), (some (.ref 3)), (some (.ref 402)), none, (some (.str (sO "grammarmill.regex") 508)), none, (some (.ref 0))])),
   (407, (Obj.mk (.type "tuple") none (.seq #[] 0) #[])),
   (408, (Obj.mk (.type "dict") none (.dict #[(de P "__module__" 744 (.str (sO "grammarmill.regex") 508)), (de P "__firstlineno__" 748 (.int 170 747)), (de P "name" 750 (.str (sO "star") 749)), (de P "__static_attributes__" 751 (.ref 407)), (de P "__doc__" 752 .none)] 2) #[])),
   (409, (Obj.mk (.type "type") none (.cls (ClassData.mk (sO "Star") [(.ref 397)] [(.ref 409), (.ref 397), (.ref 255), (.type "object")] 408 (sO "Star") true [] [] false none false)) #[(some (.ref 400)), none, (some (.str (sO "Star") 737)), (some (.str (sO "Star") 745)), (some (.builtin "object.__new__")), (some (.bool true))])),
   (410, (Obj.mk (.type "super") none (.fields #[(.ref 409), (.ref 409), (.ref 409)]) #[])),
   (411, (Obj.mk (.type "builtin_function_or_method") none (.fields #[(.builtin "object.__init_subclass__"), (.ref 409)]) #[])),
   (412, (Obj.mk (.type "tuple") none (.seq #[(.ref 397)] 0) #[])),
   (413, (Obj.mk (.type "builtin_function_or_method") none (.fields #[(.builtin "type.__prepare__"), (.type "type")]) #[])),
   (414, (Obj.mk (.type "dict") none (.dict #[(de P "__module__" 762 (.str (sO "grammarmill.regex") 508)), (de P "__qualname__" 764 (.str (sO "Plus") 763)), (de P "__firstlineno__" 766 (.int 172 765)), (de P "name" 768 (.str (sO "plus") 767)), (de P "__static_attributes__" 769 (.ref 419))] 5) #[])),
   (415, (Obj.mk (.type "tuple") none (.seq #[] 0) #[])),
   (416, (Obj.mk .none none (.fields #[]) #[])),
   (417, (Obj.mk (.type "code") none (.fields #[(.str (sO "Plus") 757), (.str (sO "Plus") 758), (.str (sO "/claim/cut.py") 759), (.int 172 0), (.int 0 0), (.int 0 0), (.int 0 0), (.int 0 0), (.ref 415), (.bool false), (.int 181 0), (.ref 416), .none, .none, .none, .none, (.int 760 0), (.int 172 0), (.str (sO "/claim/cut.py") 761)]) #[])),
   (418, (Obj.mk (.type "frame") none Data.plain #[(some (.ref 417)), (some (.ref 3)), (some (.ref 414)), none, (some (.str (sO "grammarmill.regex") 508)), none, (some (.ref 0))])),
   (419, (Obj.mk (.type "tuple") none (.seq #[] 0) #[])),
   (420, (Obj.mk (.type "dict") none (.dict #[(de P "__module__" 762 (.str (sO "grammarmill.regex") 508)), (de P "__firstlineno__" 766 (.int 172 765)), (de P "name" 768 (.str (sO "plus") 767)), (de P "__static_attributes__" 769 (.ref 419)), (de P "__doc__" 770 .none)] 2) #[])),
   (421, (Obj.mk (.type "type") none (.cls (ClassData.mk (sO "Plus") [(.ref 397)] [(.ref 421), (.ref 397), (.ref 255), (.type "object")] 420 (sO "Plus") true [] [] false none false)) #[(some (.ref 412)), none, (some (.str (sO "Plus") 755)), (some (.str (sO "Plus") 763)), (some (.builtin "object.__new__")), (some (.bool true))])),
   (422, (Obj.mk (.type "super") none (.fields #[(.ref 421), (.ref 421), (.ref 421)]) #[])),
   (423, (Obj.mk (.type "builtin_function_or_method") none (.fields #[(.builtin "object.__init_subclass__"), (.ref 421)]) #[])),
   (424, (Obj.mk (.type "tuple") none (.seq #[(.ref 397)] 0) #[])),
   (425, (Obj.mk (.type "builtin_function_or_method") none (.fields #[(.builtin "type.__prepare__"), (.type "type")]) #[])),
   (426, (Obj.mk (.type "dict") none (.dict #[(de P "__module__" 780 (.str (sO "grammarmill.regex") 508)), (de P "__qualname__" 782 (.str (sO "Opt") 781)), (de P "__firstlineno__" 784 (.int 174 783)), (de P "name" 786 (.str (sO "opt") 785)), (de P "__static_attributes__" 787 (.ref 431))] 5) #[])),
   (427, (Obj.mk (.type "tuple") none (.seq #[] 0) #[])),
   (428, (Obj.mk .none none (.fields #[]) #[])),
   (429, (Obj.mk (.type "code") none (.fields #[(.str (sO "Opt") 775), (.str (sO "Opt") 776), (.str (sO "/claim/cut.py") 777), (.int 174 0), (.int 0 0), (.int 0 0), (.int 0 0), (.int 0 0), (.ref 427), (.bool false), (.int 181 0), (.ref 428), .none, .none, .none, .none, (.int 778 0), (.int 174 0), (.str (sO "/claim/cut.py") 779)]) #[])),
   (430, (Obj.mk (.type "frame") none Data.plain #[(some (.ref 429)), (some (.ref 3)), (some (.ref 426)), none, (some (.str (sO "grammarmill.regex") 508)), none, (some (.ref 0))])),
   (431, (Obj.mk (.type "tuple") none (.seq #[] 0) #[])),
   (432, (Obj.mk (.type "dict") none (.dict #[(de P "__module__" 780 (.str (sO "grammarmill.regex") 508)), (de P "__firstlineno__" 784 (.int 174 783)), (de P "name" 786 (.str (sO "opt") 785)), (de P "__static_attributes__" 787 (.ref 431)), (de P "__doc__" 788 .none)] 2) #[])),
   (433, (Obj.mk (.type "type") none (.cls (ClassData.mk (sO "Opt") [(.ref 397)] [(.ref 433), (.ref 397), (.ref 255), (.type "object")] 432 (sO "Opt") true [] [] false none false)) #[(some (.ref 424)), none, (some (.str (sO "Opt") 773)), (some (.str (sO "Opt") 781)), (some (.builtin "object.__new__")), (some (.bool true))])),
   (434, (Obj.mk (.type "super") none (.fields #[(.ref 433), (.ref 433), (.ref 433)]) #[])),
   (435, (Obj.mk (.type "builtin_function_or_method") none (.fields #[(.builtin "object.__init_subclass__"), (.ref 433)]) #[])),
   (436, (Obj.mk (.type "tuple") none (.seq #[(.ref 397)] 0) #[])),
   (437, (Obj.mk (.type "builtin_function_or_method") none (.fields #[(.builtin "type.__prepare__"), (.type "type")]) #[])),
   (438, (Obj.mk (.type "dict") none (.dict #[(de P "__module__" 798 (.str (sO "grammarmill.regex") 508)), (de P "__qualname__" 800 (.str (sO "Repeat") 799)), (de P "__firstlineno__" 802 (.int 176 801)), (de P "name" 804 (.str (sO "repeat") 803)), (de P "__init__" 814 (.ref 449)), (de P "told" 821 (.ref 456)), (de P "__static_attributes__" 824 (.ref 457))] 7) #[])),
   (439, (Obj.mk (.type "tuple") none (.seq #[] 0) #[])),
   (440, (Obj.mk .none none (.fields #[(.int 179 0), (.int 4 0), (.ref 448), (.int 188 0), (.int 4 0), (.ref 455)]) #[])),
   (441, (Obj.mk (.type "code") none (.fields #[(.str (sO "Repeat") 793), (.str (sO "Repeat") 794), (.str (sO "/claim/cut.py") 795), (.int 176 0), (.int 0 0), (.int 0 0), (.int 0 0), (.int 0 0), (.ref 439), (.bool false), (.int 181 0), (.ref 440), .none, .none, .none, .none, (.int 796 0), (.int 176 0), (.str (sO "/claim/cut.py") 797)]) #[])),
   (442, (Obj.mk (.type "frame") none Data.plain #[(some (.ref 441)), (some (.ref 3)), (some (.ref 438)), none, (some (.str (sO "grammarmill.regex") 508)), none, (some (.ref 0))])),
   (443, (Obj.mk (.type "tuple") none (.seq #[] 0) #[])),
   (444, (Obj.mk .none none (.fields #[]) #[])),
   (445, (Obj.mk (.type "tuple") none (.seq #[(.str (sO "self") 808), (.str (sO "body") 809), (.str (sO "low") 810), (.str (sO "high") 811)] 0) #[])),
   (446, (Obj.mk (.type "tuple") none (.seq #[] 0) #[])),
   (447, (Obj.mk .none none (.func (FuncData.mk (sO "__init__") (sO "Repeat.__init__") (parOf (memOf (fnT 20) 1)) (FuncBody.stmts (bodOf (memOf (fnT 20) 1))) (scoOf (memOf (fnT 20) 1)) 0 [] .none .none .none .none none .none .none 0)) #[])),
   (448, (Obj.mk (.type "code") none (.fields #[(.str (sO "__init__") 805), (.str (sO "Repeat.__init__") 806), (.str (sO "/claim/cut.py") 807), (.int 179 0), (.int 4 0), (.int 0 0), (.int 0 0), (.int 3 0), (.ref 443), (.bool true), (.int 181 0), (.ref 444), .none, (.ref 445), (.ref 446), (.ref 447), (.int 812 0), (.int 179 0), (.str (sO "/claim/cut.py") 813)]) #[])),
   (449, (Obj.mk (.type "function") none (.func (FuncData.mk (sO "__init__") (sO "Repeat.__init__") (parOf (memOf (fnT 20) 1)) (FuncBody.stmts (bodOf (memOf (fnT 20) 1))) (scoOf (memOf (fnT 20) 1)) 3 [] .none .none .none (.str (sO "grammarmill.regex") 508) none (.ref 448) .none 0)) #[])),
   (450, (Obj.mk (.type "tuple") none (.seq #[] 0) #[]))] ++
  [(451, (Obj.mk .none none (.fields #[]) #[])),
   (452, (Obj.mk (.type "tuple") none (.seq #[(.str (sO "self") 818)] 0) #[])),
   (453, (Obj.mk (.type "tuple") none (.seq #[] 0) #[])),
   (454, (Obj.mk .none none (.func (FuncData.mk (sO "told") (sO "Repeat.told") (parOf (memOf (fnT 20) 2)) (FuncBody.stmts (bodOf (memOf (fnT 20) 2))) (scoOf (memOf (fnT 20) 2)) 0 [] .none .none .none .none none .none .none 0)) #[])),
   (455, (Obj.mk (.type "code") none (.fields #[(.str (sO "told") 815), (.str (sO "Repeat.told") 816), (.str (sO "/claim/cut.py") 817), (.int 188 0), (.int 1 0), (.int 0 0), (.int 0 0), (.int 3 0), (.ref 450), (.bool true), (.int 181 0), (.ref 451), .none, (.ref 452), (.ref 453), (.ref 454), (.int 819 0), (.int 188 0), (.str (sO "/claim/cut.py") 820)]) #[])),
   (456, (Obj.mk (.type "function") none (.func (FuncData.mk (sO "told") (sO "Repeat.told") (parOf (memOf (fnT 20) 2)) (FuncBody.stmts (bodOf (memOf (fnT 20) 2))) (scoOf (memOf (fnT 20) 2)) 3 [] .none .none .none (.str (sO "grammarmill.regex") 508) none (.ref 455) .none 0)) #[])),
   (457, (Obj.mk (.type "tuple") none (.seq #[(.str (sO "high") 822), (.str (sO "low") 823)] 0) #[])),
   (458, (Obj.mk (.type "dict") none (.dict #[(de P "__module__" 798 (.str (sO "grammarmill.regex") 508)), (de P "__firstlineno__" 802 (.int 176 801)), (de P "name" 804 (.str (sO "repeat") 803)), (de P "__init__" 814 (.ref 449)), (de P "told" 821 (.ref 456)), (de P "__static_attributes__" 824 (.ref 457)), (de P "__doc__" 825 .none)] 2) #[])),
   (459, (Obj.mk (.type "type") none (.cls (ClassData.mk (sO "Repeat") [(.ref 397)] [(.ref 459), (.ref 397), (.ref 255), (.type "object")] 458 (sO "Repeat") true [] [] false none false)) #[(some (.ref 436)), none, (some (.str (sO "Repeat") 791)), (some (.str (sO "Repeat") 799)), (some (.builtin "object.__new__")), (some (.bool true))])),
   (460, (Obj.mk (.type "super") none (.fields #[(.ref 459), (.ref 459), (.ref 459)]) #[])),
   (461, (Obj.mk (.type "builtin_function_or_method") none (.fields #[(.builtin "object.__init_subclass__"), (.ref 459)]) #[]))]
noncomputable def upd4 (P : Params) : List (Nat × Obj) :=
  [(3, (Obj.mk (.type "dict") none (.dict #[(de P "__name__" 165 (.str (sO "law_qd0065_01") 944)), (de P "__doc__" 166 .none), (de P "__package__" 167 .none), (de P "__loader__" 168 (.builtin "__main__.__loader__#opaque")), (de P "__spec__" 169 .none), (de P "__annotations__" 170 (.ref 6)), (de P "__builtins__" 171 (.ref 4)), (de P "__file__" 173 (.str (sO "/claim/cut.py") 172)), (de P "__cached__" 174 .none), (de P "_wall" 193 (.ref 21)), (de P "ToolError" 233 (.ref 46)), (de P "RegexError" 249 (.ref 59)), (de P "TOP" 253 (.int 127 252)), (de P "CharSet" 507 (.ref 227)), (de P "MOST_REPEAT" 511 (.int 40 510)), (de P "Node" 547 (.ref 255)), (de P "Empty" 565 (.ref 269)), (de P "Never" 583 (.ref 281)), (de P "Chars" 617 (.ref 307)), (de P "Pair" 661 (.ref 340)), (de P "Cat" 679 (.ref 352)), (de P "Alt" 697 (.ref 364)), (de P "Loop" 736 (.ref 397)), (de P "Star" 754 (.ref 409)), (de P "Plus" 772 (.ref 421)), (de P "Opt" 790 (.ref 433)), (de P "Repeat" 827 (.ref 459)), (de P "spine" 836 (.ref 468)), (de P "cat_all" 845 (.ref 475)), (de P "alt_all" 854 (.ref 482)), (de P "Pattern" 909 (.ref 520)), (de P "can_be_empty" 919 (.ref 531)), (de P "row_without_empty" 929 (.ref 538)), (de P "without_empty" 935 (.ref 543)), (de P "matched_node" 943 (.ref 550)), (de P "_law_pen" 954 (.ref 557)), (de P "_law_draw" 963 (.ref 564)), (de P "_law_letter" 971 (.ref 571)), (de P "_law_words" 977 (.ref 576)), (de P "_law_part" 990 (.ref 583)), (de P "_law_spread" 999 (.ref 590)), (de P "_law_shown" 1005 (.ref 595)), (de P "_law_halvings" 1014 (.ref 602)), (de P "law" 1020 (.ref 607))] 44) #[])),
   (12, (Obj.mk .none none (.fields #[(.int 1 0), (.int 0 0), (.ref 20), (.int 5 0), (.int 0 0), (.ref 27), (.int 16 0), (.int 0 0), (.ref 55), (.int 20 0), (.int 0 0), (.ref 67), (.int 121 0), (.int 0 0), (.ref 237), (.int 129 0), (.int 0 0), (.ref 265), (.int 131 0), (.int 0 0), (.ref 277), (.int 133 0), (.int 0 0), (.ref 289), (.int 141 0), (.int 0 0), (.ref 315), (.int 156 0), (.int 0 0), (.ref 348), (.int 158 0), (.int 0 0), (.ref 360), (.int 160 0), (.int 0 0), (.ref 372), (.int 170 0), (.int 0 0), (.ref 405), (.int 172 0), (.int 0 0), (.ref 417), (.int 174 0), (.int 0 0), (.ref 429), (.int 176 0), (.int 0 0), (.ref 441), (.int 190 0), (.int 0 0), (.ref 467), (.int 199 0), (.int 0 0), (.ref 474), (.int 206 0), (.int 0 0), (.ref 481), (.int 213 0), (.int 0 0), (.ref 488), (.int 234 0), (.int 0 0), (.ref 530), (.int 253 0), (.int 0 0), (.ref 537), (.int 258 0), (.int 0 0), (.ref 542), (.int 272 0), (.int 0 0), (.ref 549), (.int 278 0), (.int 0 0), (.ref 556), (.int 283 0), (.int 0 0), (.ref 563), (.int 289 0), (.int 0 0), (.ref 570), (.int 292 0), (.int 0 0), (.ref 575), (.int 297 0), (.int 0 0), (.ref 582), (.int 312 0), (.int 0 0), (.ref 589), (.int 318 0), (.int 0 0), (.ref 594), (.int 334 0), (.int 0 0), (.ref 601), (.int 339 0), (.int 0 0), (.ref 606)]) #[])),
   (462, (Obj.mk (.type "tuple") none (.seq #[] 0) #[])),
   (463, (Obj.mk .none none (.fields #[]) #[])),
   (464, (Obj.mk (.type "tuple") none (.seq #[(.str (sO "node") 831), (.str (sO "parts") 832), (.str (sO "here") 833)] 0) #[])),
   (465, (Obj.mk (.type "tuple") none (.seq #[] 0) #[])),
   (466, (Obj.mk .none none (.func (FuncData.mk (sO "spine") (sO "spine") (parOf (fnT 21)) (FuncBody.stmts (bodOf (fnT 21))) (scoOf (fnT 21)) 0 [] .none .none .none .none none .none .none 0)) #[])),
   (467, (Obj.mk (.type "code") none (.fields #[(.str (sO "spine") 828), (.str (sO "spine") 829), (.str (sO "/claim/cut.py") 830), (.int 190 0), (.int 1 0), (.int 0 0), (.int 0 0), (.int 3 0), (.ref 462), (.bool true), (.int 181 0), (.ref 463), .none, (.ref 464), (.ref 465), (.ref 466), (.int 834 0), (.int 190 0), (.str (sO "/claim/cut.py") 835)]) #[])),
   (468, (Obj.mk (.type "function") none (.func (FuncData.mk (sO "spine") (sO "spine") (parOf (fnT 21)) (FuncBody.stmts (bodOf (fnT 21))) (scoOf (fnT 21)) 3 [] .none .none .none (.str (sO "grammarmill.regex") 508) none (.ref 467) .none 0)) #[])),
   (469, (Obj.mk (.type "tuple") none (.seq #[] 0) #[])),
   (470, (Obj.mk .none none (.fields #[]) #[])),
   (471, (Obj.mk (.type "tuple") none (.seq #[(.str (sO "nodes") 840), (.str (sO "node") 841), (.str (sO "part") 842)] 0) #[])),
   (472, (Obj.mk (.type "tuple") none (.seq #[] 0) #[])),
   (473, (Obj.mk .none none (.func (FuncData.mk (sO "cat_all") (sO "cat_all") (parOf (fnT 22)) (FuncBody.stmts (bodOf (fnT 22))) (scoOf (fnT 22)) 0 [] .none .none .none .none none .none .none 0)) #[])),
   (474, (Obj.mk (.type "code") none (.fields #[(.str (sO "cat_all") 837), (.str (sO "cat_all") 838), (.str (sO "/claim/cut.py") 839), (.int 199 0), (.int 1 0), (.int 0 0), (.int 0 0), (.int 3 0), (.ref 469), (.bool true), (.int 181 0), (.ref 470), .none, (.ref 471), (.ref 472), (.ref 473), (.int 843 0), (.int 199 0), (.str (sO "/claim/cut.py") 844)]) #[])),
   (475, (Obj.mk (.type "function") none (.func (FuncData.mk (sO "cat_all") (sO "cat_all") (parOf (fnT 22)) (FuncBody.stmts (bodOf (fnT 22))) (scoOf (fnT 22)) 3 [] .none .none .none (.str (sO "grammarmill.regex") 508) none (.ref 474) .none 0)) #[])),
   (476, (Obj.mk (.type "tuple") none (.seq #[] 0) #[])),
   (477, (Obj.mk .none none (.fields #[]) #[])),
   (478, (Obj.mk (.type "tuple") none (.seq #[(.str (sO "nodes") 849), (.str (sO "node") 850), (.str (sO "part") 851)] 0) #[])),
   (479, (Obj.mk (.type "tuple") none (.seq #[] 0) #[])),
   (480, (Obj.mk .none none (.func (FuncData.mk (sO "alt_all") (sO "alt_all") (parOf (fnT 23)) (FuncBody.stmts (bodOf (fnT 23))) (scoOf (fnT 23)) 0 [] .none .none .none .none none .none .none 0)) #[])),
   (481, (Obj.mk (.type "code") none (.fields #[(.str (sO "alt_all") 846), (.str (sO "alt_all") 847), (.str (sO "/claim/cut.py") 848), (.int 206 0), (.int 1 0), (.int 0 0), (.int 0 0), (.int 3 0), (.ref 476), (.bool true), (.int 181 0), (.ref 477), .none, (.ref 478), (.ref 479), (.ref 480), (.int 852 0), (.int 206 0), (.str (sO "/claim/cut.py") 853)]) #[])),
   (482, (Obj.mk (.type "function") none (.func (FuncData.mk (sO "alt_all") (sO "alt_all") (parOf (fnT 23)) (FuncBody.stmts (bodOf (fnT 23))) (scoOf (fnT 23)) 3 [] .none .none .none (.str (sO "grammarmill.regex") 508) none (.ref 481) .none 0)) #[])),
   (483, (Obj.mk (.type "tuple") none (.seq #[] 0) #[])),
   (484, (Obj.mk (.type "builtin_function_or_method") none (.fields #[(.builtin "type.__prepare__"), (.type "type")]) #[])),
   (485, (Obj.mk (.type "dict") none (.dict #[(de P "__module__" 862 (.str (sO "grammarmill.regex") 508)), (de P "__qualname__" 864 (.str (sO "Pattern") 863)), (de P "__firstlineno__" 866 (.int 213 865)), (de P "__init__" 876 (.ref 496)), (de P "whole" 883 (.ref 503)), (de P "is_line_end" 890 (.ref 510)), (de P "told" 898 (.ref 517)), (de P "__static_attributes__" 902 (.ref 518))] 8) #[])),
   (486, (Obj.mk (.type "tuple") none (.seq #[] 0) #[])),
   (487, (Obj.mk .none none (.fields #[(.int 215 0), (.int 4 0), (.ref 495), (.int 220 0), (.int 4 0), (.ref 502), (.int 225 0), (.int 4 0), (.ref 509), (.int 228 0), (.int 4 0), (.ref 516)]) #[])),
   (488, (Obj.mk (.type "code") none (.fields #[(.str (sO "Pattern") 857), (.str (sO "Pattern") 858), (.str (sO "/claim/cut.py") 859), (.int 213 0), (.int 0 0), (.int 0 0), (.int 0 0), (.int 0 0), (.ref 486), (.bool false), (.int 181 0), (.ref 487), .none, .none, .none, .none, (.int 860 0), (.int 213 0), (.str (sO "/claim/cut.py") 861)]) #[])),
   (489, (Obj.mk (.type "frame") none Data.plain #[(some (.ref 488)), (some (.ref 3)), (some (.ref 485)), none, (some (.str (sO "grammarmill.regex") 508)), none, (some (.ref 0))])),
   (490, (Obj.mk (.type "tuple") none (.seq #[] 0) #[])),
   (491, (Obj.mk .none none (.fields #[]) #[])),
   (492, (Obj.mk (.type "tuple") none (.seq #[(.str (sO "self") 870), (.str (sO "body") 871), (.str (sO "begins") 872), (.str (sO "trail") 873)] 0) #[])),
   (493, (Obj.mk (.type "tuple") none (.seq #[] 0) #[])),
   (494, (Obj.mk .none none (.func (FuncData.mk (sO "__init__") (sO "Pattern.__init__") (parOf (memOf (fnT 24) 0)) (FuncBody.stmts (bodOf (memOf (fnT 24) 0))) (scoOf (memOf (fnT 24) 0)) 0 [] .none .none .none .none none .none .none 0)) #[])),
   (495, (Obj.mk (.type "code") none (.fields #[(.str (sO "__init__") 867), (.str (sO "Pattern.__init__") 868), (.str (sO "/claim/cut.py") 869), (.int 215 0), (.int 4 0), (.int 0 0), (.int 0 0), (.int 3 0), (.ref 490), (.bool true), (.int 181 0), (.ref 491), .none, (.ref 492), (.ref 493), (.ref 494), (.int 874 0), (.int 215 0), (.str (sO "/claim/cut.py") 875)]) #[])),
   (496, (Obj.mk (.type "function") none (.func (FuncData.mk (sO "__init__") (sO "Pattern.__init__") (parOf (memOf (fnT 24) 0)) (FuncBody.stmts (bodOf (memOf (fnT 24) 0))) (scoOf (memOf (fnT 24) 0)) 3 [] .none .none .none (.str (sO "grammarmill.regex") 508) none (.ref 495) .none 0)) #[])),
   (497, (Obj.mk (.type "tuple") none (.seq #[] 0) #[])),
   (498, (Obj.mk .none none (.fields #[]) #[])),
   (499, (Obj.mk (.type "tuple") none (.seq #[(.str (sO "self") 880)] 0) #[])),
   (500, (Obj.mk (.type "tuple") none (.seq #[] 0) #[])),
   (501, (Obj.mk .none none (.func (FuncData.mk (sO "whole") (sO "Pattern.whole") (parOf (memOf (fnT 24) 1)) (FuncBody.stmts (bodOf (memOf (fnT 24) 1))) (scoOf (memOf (fnT 24) 1)) 0 [] .none .none .none .none none .none .none 0)) #[])),
   (502, (Obj.mk (.type "code") none (.fields #[(.str (sO "whole") 877), (.str (sO "Pattern.whole") 878), (.str (sO "/claim/cut.py") 879), (.int 220 0), (.int 1 0), (.int 0 0), (.int 0 0), (.int 3 0), (.ref 497), (.bool true), (.int 181 0), (.ref 498), .none, (.ref 499), (.ref 500), (.ref 501), (.int 881 0), (.int 220 0), (.str (sO "/claim/cut.py") 882)]) #[])),
   (503, (Obj.mk (.type "function") none (.func (FuncData.mk (sO "whole") (sO "Pattern.whole") (parOf (memOf (fnT 24) 1)) (FuncBody.stmts (bodOf (memOf (fnT 24) 1))) (scoOf (memOf (fnT 24) 1)) 3 [] .none .none .none (.str (sO "grammarmill.regex") 508) none (.ref 502) .none 0)) #[])),
   (504, (Obj.mk (.type "tuple") none (.seq #[] 0) #[])),
   (505, (Obj.mk .none none (.fields #[]) #[])),
   (506, (Obj.mk (.type "tuple") none (.seq #[(.str (sO "self") 887)] 0) #[])),
   (507, (Obj.mk (.type "tuple") none (.seq #[] 0) #[])),
   (508, (Obj.mk .none none (.func (FuncData.mk (sO "is_line_end") (sO "Pattern.is_line_end") (parOf (memOf (fnT 24) 2)) (FuncBody.stmts (bodOf (memOf (fnT 24) 2))) (scoOf (memOf (fnT 24) 2)) 0 [] .none .none .none .none none .none .none 0)) #[])),
   (509, (Obj.mk (.type "code") none (.fields #[(.str (sO "is_line_end") 884), (.str (sO "Pattern.is_line_end") 885), (.str (sO "/claim/cut.py") 886), (.int 225 0), (.int 1 0), (.int 0 0), (.int 0 0), (.int 3 0), (.ref 504), (.bool true), (.int 181 0), (.ref 505), .none, (.ref 506), (.ref 507), (.ref 508), (.int 888 0), (.int 225 0), (.str (sO "/claim/cut.py") 889)]) #[]))] ++
  [(510, (Obj.mk (.type "function") none (.func (FuncData.mk (sO "is_line_end") (sO "Pattern.is_line_end") (parOf (memOf (fnT 24) 2)) (FuncBody.stmts (bodOf (memOf (fnT 24) 2))) (scoOf (memOf (fnT 24) 2)) 3 [] .none .none .none (.str (sO "grammarmill.regex") 508) none (.ref 509) .none 0)) #[])),
   (511, (Obj.mk (.type "tuple") none (.seq #[] 0) #[])),
   (512, (Obj.mk .none none (.fields #[]) #[])),
   (513, (Obj.mk (.type "tuple") none (.seq #[(.str (sO "self") 894), (.str (sO "trail") 895)] 0) #[])),
   (514, (Obj.mk (.type "tuple") none (.seq #[] 0) #[])),
   (515, (Obj.mk .none none (.func (FuncData.mk (sO "told") (sO "Pattern.told") (parOf (memOf (fnT 24) 3)) (FuncBody.stmts (bodOf (memOf (fnT 24) 3))) (scoOf (memOf (fnT 24) 3)) 0 [] .none .none .none .none none .none .none 0)) #[])),
   (516, (Obj.mk (.type "code") none (.fields #[(.str (sO "told") 891), (.str (sO "Pattern.told") 892), (.str (sO "/claim/cut.py") 893), (.int 228 0), (.int 1 0), (.int 0 0), (.int 0 0), (.int 3 0), (.ref 511), (.bool true), (.int 181 0), (.ref 512), .none, (.ref 513), (.ref 514), (.ref 515), (.int 896 0), (.int 228 0), (.str (sO "/claim/cut.py") 897)]) #[])),
   (517, (Obj.mk (.type "function") none (.func (FuncData.mk (sO "told") (sO "Pattern.told") (parOf (memOf (fnT 24) 3)) (FuncBody.stmts (bodOf (memOf (fnT 24) 3))) (scoOf (memOf (fnT 24) 3)) 3 [] .none .none .none (.str (sO "grammarmill.regex") 508) none (.ref 516) .none 0)) #[])),
   (518, (Obj.mk (.type "tuple") none (.seq #[(.str (sO "begins") 899), (.str (sO "body") 900), (.str (sO "trail") 901)] 0) #[])),
   (519, (Obj.mk (.type "dict") none (.dict #[(de P "__module__" 862 (.str (sO "grammarmill.regex") 508)), (de P "__firstlineno__" 866 (.int 213 865)), (de P "__init__" 876 (.ref 496)), (de P "whole" 883 (.ref 503)), (de P "is_line_end" 890 (.ref 510)), (de P "told" 898 (.ref 517)), (de P "__static_attributes__" 902 (.ref 518)), (de P "__dict__" 904 (.ref 521)), (de P "__weakref__" 906 (.ref 522)), (de P "__doc__" 907 .none)] 4) #[])),
   (520, (Obj.mk (.type "type") none (.cls (ClassData.mk (sO "Pattern") [(.type "object")] [(.ref 520), (.type "object")] 519 (sO "Pattern") true [] [] false none false)) #[none, none, (some (.str (sO "Pattern") 855)), (some (.str (sO "Pattern") 863)), (some (.builtin "object.__new__")), (some (.bool true))])),
   (521, (Obj.mk (.type "getset_descriptor") none (.fields #[(.str (sO "__dict__") 903), (.ref 520), (.builtin "function.__dict__"), (.builtin "function.__dict__#set")]) #[])),
   (522, (Obj.mk (.type "getset_descriptor") none (.fields #[(.str (sO "__weakref__") 905), (.ref 520), (.builtin "ExceptionGroup.__weakref__"), .none]) #[])),
   (523, (Obj.mk (.type "super") none (.fields #[(.ref 520), (.ref 520), (.ref 520)]) #[])),
   (524, (Obj.mk (.type "builtin_function_or_method") none (.fields #[(.builtin "object.__init_subclass__"), (.ref 520)]) #[])),
   (525, (Obj.mk (.type "tuple") none (.seq #[] 0) #[])),
   (526, (Obj.mk .none none (.fields #[]) #[])),
   (527, (Obj.mk (.type "tuple") none (.seq #[(.str (sO "node") 915), (.str (sO "part") 916)] 0) #[])),
   (528, (Obj.mk (.type "tuple") none (.seq #[] 0) #[])),
   (529, (Obj.mk .none none (.func (FuncData.mk (sO "can_be_empty") (sO "can_be_empty") (parOf (fnT 26)) (FuncBody.stmts (bodOf (fnT 26))) (scoOf (fnT 26)) 0 [] .none .none .none .none none .none .none 0)) #[])),
   (530, (Obj.mk (.type "code") none (.fields #[(.str (sO "can_be_empty") 912), (.str (sO "can_be_empty") 913), (.str (sO "/claim/cut.py") 914), (.int 234 0), (.int 1 0), (.int 0 0), (.int 0 0), (.int 3 0), (.ref 525), (.bool true), (.int 181 0), (.ref 526), .none, (.ref 527), (.ref 528), (.ref 529), (.int 917 0), (.int 234 0), (.str (sO "/claim/cut.py") 918)]) #[])),
   (531, (Obj.mk (.type "function") none (.func (FuncData.mk (sO "can_be_empty") (sO "can_be_empty") (parOf (fnT 26)) (FuncBody.stmts (bodOf (fnT 26))) (scoOf (fnT 26)) 3 [] .none .none .none (.str (sO "grammarmill.regtools") 910) none (.ref 530) .none 0)) #[])),
   (532, (Obj.mk (.type "tuple") none (.seq #[] 0) #[])),
   (533, (Obj.mk .none none (.fields #[]) #[])),
   (534, (Obj.mk (.type "tuple") none (.seq #[(.str (sO "parts") 925), (.str (sO "half") 926)] 0) #[])),
   (535, (Obj.mk (.type "tuple") none (.seq #[] 0) #[])),
   (536, (Obj.mk .none none (.func (FuncData.mk (sO "row_without_empty") (sO "row_without_empty") (parOf (fnT 28)) (FuncBody.stmts (bodOf (fnT 28))) (scoOf (fnT 28)) 0 [] .none .none .none .none none .none .none 0)) #[])),
   (537, (Obj.mk (.type "code") none (.fields #[(.str (sO "row_without_empty") 922), (.str (sO "row_without_empty") 923), (.str (sO "/claim/cut.py") 924), (.int 253 0), (.int 1 0), (.int 0 0), (.int 0 0), (.int 3 0), (.ref 532), (.bool true), (.int 181 0), (.ref 533), .none, (.ref 534), (.ref 535), (.ref 536), (.int 927 0), (.int 253 0), (.str (sO "/claim/cut.py") 928)]) #[])),
   (538, (Obj.mk (.type "function") none (.func (FuncData.mk (sO "row_without_empty") (sO "row_without_empty") (parOf (fnT 28)) (FuncBody.stmts (bodOf (fnT 28))) (scoOf (fnT 28)) 3 [] .none .none .none (.str (sO "grammarmill.lexmake") 920) none (.ref 537) .none 0)) #[])),
   (539, (Obj.mk (.type "tuple") none (.seq #[] 0) #[])),
   (540, (Obj.mk .none none (.fields #[]) #[])),
   (541, (Obj.mk .none none (.func (FuncData.mk (sO "without_empty") (sO "without_empty") (parOf (fnT 29)) (FuncBody.stmts (bodOf (fnT 29))) (scoOf (fnT 29)) 0 [] .none .none .none .none none .none .none 0)) #[])),
   (542, (Obj.mk (.type "code") none (.fields #[(.str (sO "without_empty") 930), (.str (sO "without_empty") 931), (.str (sO "/claim/cut.py") 932), (.int 258 0), (.int 1 0), (.int 0 0), (.int 0 0), (.int 3 0), (.ref 539), (.bool true), (.int 181 0), (.ref 540), .none, .none, .none, (.ref 541), (.int 933 0), (.int 258 0), (.str (sO "/claim/cut.py") 934)]) #[])),
   (543, (Obj.mk (.type "function") none (.func (FuncData.mk (sO "without_empty") (sO "without_empty") (parOf (fnT 29)) (FuncBody.stmts (bodOf (fnT 29))) (scoOf (fnT 29)) 3 [] .none .none .none (.str (sO "grammarmill.lexmake") 920) none (.ref 542) .none 0)) #[])),
   (544, (Obj.mk (.type "tuple") none (.seq #[] 0) #[])),
   (545, (Obj.mk .none none (.fields #[]) #[])),
   (546, (Obj.mk (.type "tuple") none (.seq #[(.str (sO "pattern") 939), (.str (sO "body") 940)] 0) #[])),
   (547, (Obj.mk (.type "tuple") none (.seq #[] 0) #[])),
   (548, (Obj.mk .none none (.func (FuncData.mk (sO "matched_node") (sO "matched_node") (parOf (fnT 30)) (FuncBody.stmts (bodOf (fnT 30))) (scoOf (fnT 30)) 0 [] .none .none .none .none none .none .none 0)) #[])),
   (549, (Obj.mk (.type "code") none (.fields #[(.str (sO "matched_node") 936), (.str (sO "matched_node") 937), (.str (sO "/claim/cut.py") 938), (.int 272 0), (.int 1 0), (.int 0 0), (.int 0 0), (.int 3 0), (.ref 544), (.bool true), (.int 181 0), (.ref 545), .none, (.ref 546), (.ref 547), (.ref 548), (.int 941 0), (.int 272 0), (.str (sO "/claim/cut.py") 942)]) #[])),
   (550, (Obj.mk (.type "function") none (.func (FuncData.mk (sO "matched_node") (sO "matched_node") (parOf (fnT 30)) (FuncBody.stmts (bodOf (fnT 30))) (scoOf (fnT 30)) 3 [] .none .none .none (.str (sO "grammarmill.lexmake") 920) none (.ref 549) .none 0)) #[])),
   (551, (Obj.mk (.type "tuple") none (.seq #[] 0) #[])),
   (552, (Obj.mk .none none (.fields #[]) #[])),
   (553, (Obj.mk (.type "tuple") none (.seq #[(.str (sO "script") 949), (.str (sO "number") 950), (.str (sO "cell") 951)] 0) #[])),
   (554, (Obj.mk (.type "tuple") none (.seq #[] 0) #[])),
   (555, (Obj.mk .none none (.func (FuncData.mk (sO "_law_pen") (sO "_law_pen") (parOf (fnT 32)) (FuncBody.stmts (bodOf (fnT 32))) (scoOf (fnT 32)) 0 [] .none .none .none .none none .none .none 0)) #[])),
   (556, (Obj.mk (.type "code") none (.fields #[(.str (sO "_law_pen") 946), (.str (sO "_law_pen") 947), (.str (sO "/claim/cut.py") 948), (.int 278 0), (.int 1 0), (.int 0 0), (.int 0 0), (.int 3 0), (.ref 551), (.bool true), (.int 181 0), (.ref 552), .none, (.ref 553), (.ref 554), (.ref 555), (.int 952 0), (.int 278 0), (.str (sO "/claim/cut.py") 953)]) #[])),
   (557, (Obj.mk (.type "function") none (.func (FuncData.mk (sO "_law_pen") (sO "_law_pen") (parOf (fnT 32)) (FuncBody.stmts (bodOf (fnT 32))) (scoOf (fnT 32)) 3 [] .none .none .none (.str (sO "law_qd0065_01") 944) none (.ref 556) .none 0)) #[])),
   (558, (Obj.mk (.type "tuple") none (.seq #[] 0) #[])),
   (559, (Obj.mk .none none (.fields #[]) #[]))] ++
  [(560, (Obj.mk (.type "tuple") none (.seq #[(.str (sO "pen") 958), (.str (sO "many") 959), (.str (sO "digit") 960)] 0) #[])),
   (561, (Obj.mk (.type "tuple") none (.seq #[] 0) #[])),
   (562, (Obj.mk .none none (.func (FuncData.mk (sO "_law_draw") (sO "_law_draw") (parOf (fnT 33)) (FuncBody.stmts (bodOf (fnT 33))) (scoOf (fnT 33)) 0 [] .none .none .none .none none .none .none 0)) #[])),
   (563, (Obj.mk (.type "code") none (.fields #[(.str (sO "_law_draw") 955), (.str (sO "_law_draw") 956), (.str (sO "/claim/cut.py") 957), (.int 283 0), (.int 2 0), (.int 0 0), (.int 0 0), (.int 3 0), (.ref 558), (.bool true), (.int 181 0), (.ref 559), .none, (.ref 560), (.ref 561), (.ref 562), (.int 961 0), (.int 283 0), (.str (sO "/claim/cut.py") 962)]) #[])),
   (564, (Obj.mk (.type "function") none (.func (FuncData.mk (sO "_law_draw") (sO "_law_draw") (parOf (fnT 33)) (FuncBody.stmts (bodOf (fnT 33))) (scoOf (fnT 33)) 3 [] .none .none .none (.str (sO "law_qd0065_01") 944) none (.ref 563) .none 0)) #[])),
   (565, (Obj.mk (.type "tuple") none (.seq #[] 0) #[])),
   (566, (Obj.mk .none none (.fields #[]) #[])),
   (567, (Obj.mk (.type "tuple") none (.seq #[(.str (sO "pen") 967), (.str (sO "letter") 968)] 0) #[])),
   (568, (Obj.mk (.type "tuple") none (.seq #[] 0) #[])),
   (569, (Obj.mk .none none (.func (FuncData.mk (sO "_law_letter") (sO "_law_letter") (parOf (fnT 34)) (FuncBody.stmts (bodOf (fnT 34))) (scoOf (fnT 34)) 0 [] .none .none .none .none none .none .none 0)) #[])),
   (570, (Obj.mk (.type "code") none (.fields #[(.str (sO "_law_letter") 964), (.str (sO "_law_letter") 965), (.str (sO "/claim/cut.py") 966), (.int 289 0), (.int 1 0), (.int 0 0), (.int 0 0), (.int 3 0), (.ref 565), (.bool true), (.int 181 0), (.ref 566), .none, (.ref 567), (.ref 568), (.ref 569), (.int 969 0), (.int 289 0), (.str (sO "/claim/cut.py") 970)]) #[])),
   (571, (Obj.mk (.type "function") none (.func (FuncData.mk (sO "_law_letter") (sO "_law_letter") (parOf (fnT 34)) (FuncBody.stmts (bodOf (fnT 34))) (scoOf (fnT 34)) 3 [] .none .none .none (.str (sO "law_qd0065_01") 944) none (.ref 570) .none 0)) #[])),
   (572, (Obj.mk (.type "tuple") none (.seq #[] 0) #[])),
   (573, (Obj.mk .none none (.fields #[]) #[])),
   (574, (Obj.mk .none none (.func (FuncData.mk (sO "_law_words") (sO "_law_words") (parOf (fnT 35)) (FuncBody.stmts (bodOf (fnT 35))) (scoOf (fnT 35)) 0 [] .none .none .none .none none .none .none 0)) #[])),
   (575, (Obj.mk (.type "code") none (.fields #[(.str (sO "_law_words") 972), (.str (sO "_law_words") 973), (.str (sO "/claim/cut.py") 974), (.int 292 0), (.int 1 0), (.int 0 0), (.int 0 0), (.int 3 0), (.ref 572), (.bool true), (.int 181 0), (.ref 573), .none, .none, .none, (.ref 574), (.int 975 0), (.int 292 0), (.str (sO "/claim/cut.py") 976)]) #[])),
   (576, (Obj.mk (.type "function") none (.func (FuncData.mk (sO "_law_words") (sO "_law_words") (parOf (fnT 35)) (FuncBody.stmts (bodOf (fnT 35))) (scoOf (fnT 35)) 3 [] .none .none .none (.str (sO "law_qd0065_01") 944) none (.ref 575) .none 0)) #[])),
   (577, (Obj.mk (.type "tuple") none (.seq #[] 0) #[])),
   (578, (Obj.mk .none none (.fields #[]) #[])),
   (579, (Obj.mk (.type "tuple") none (.seq #[(.str (sO "pen") 981), (.str (sO "way") 982), (.str (sO "pair") 983), (.str (sO "node") 984), (.str (sO "words") 985), (.str (sO "other") 986), (.str (sO "more") 987)] 0) #[])),
   (580, (Obj.mk (.type "tuple") none (.seq #[] 0) #[])),
   (581, (Obj.mk .none none (.func (FuncData.mk (sO "_law_part") (sO "_law_part") (parOf (fnT 36)) (FuncBody.stmts (bodOf (fnT 36))) (scoOf (fnT 36)) 0 [] .none .none .none .none none .none .none 0)) #[])),
   (582, (Obj.mk (.type "code") none (.fields #[(.str (sO "_law_part") 978), (.str (sO "_law_part") 979), (.str (sO "/claim/cut.py") 980), (.int 297 0), (.int 1 0), (.int 0 0), (.int 0 0), (.int 3 0), (.ref 577), (.bool true), (.int 181 0), (.ref 578), .none, (.ref 579), (.ref 580), (.ref 581), (.int 988 0), (.int 297 0), (.str (sO "/claim/cut.py") 989)]) #[])),
   (583, (Obj.mk (.type "function") none (.func (FuncData.mk (sO "_law_part") (sO "_law_part") (parOf (fnT 36)) (FuncBody.stmts (bodOf (fnT 36))) (scoOf (fnT 36)) 3 [] .none .none .none (.str (sO "law_qd0065_01") 944) none (.ref 582) .none 0)) #[])),
   (584, (Obj.mk (.type "tuple") none (.seq #[] 0) #[])),
   (585, (Obj.mk .none none (.fields #[]) #[])),
   (586, (Obj.mk (.type "tuple") none (.seq #[(.str (sO "given") 994), (.str (sO "found") 995), (.str (sO "here") 996)] 0) #[])),
   (587, (Obj.mk (.type "tuple") none (.seq #[] 0) #[])),
   (588, (Obj.mk .none none (.func (FuncData.mk (sO "_law_spread") (sO "_law_spread") (parOf (fnT 37)) (FuncBody.stmts (bodOf (fnT 37))) (scoOf (fnT 37)) 0 [] .none .none .none .none none .none .none 0)) #[])),
   (589, (Obj.mk (.type "code") none (.fields #[(.str (sO "_law_spread") 991), (.str (sO "_law_spread") 992), (.str (sO "/claim/cut.py") 993), (.int 312 0), (.int 1 0), (.int 0 0), (.int 0 0), (.int 3 0), (.ref 584), (.bool true), (.int 181 0), (.ref 585), .none, (.ref 586), (.ref 587), (.ref 588), (.int 997 0), (.int 312 0), (.str (sO "/claim/cut.py") 998)]) #[])),
   (590, (Obj.mk (.type "function") none (.func (FuncData.mk (sO "_law_spread") (sO "_law_spread") (parOf (fnT 37)) (FuncBody.stmts (bodOf (fnT 37))) (scoOf (fnT 37)) 3 [] .none .none .none (.str (sO "law_qd0065_01") 944) none (.ref 589) .none 0)) #[])),
   (591, (Obj.mk (.type "tuple") none (.seq #[] 0) #[])),
   (592, (Obj.mk .none none (.fields #[]) #[])),
   (593, (Obj.mk .none none (.func (FuncData.mk (sO "_law_shown") (sO "_law_shown") (parOf (fnT 38)) (FuncBody.stmts (bodOf (fnT 38))) (scoOf (fnT 38)) 0 [] .none .none .none .none none .none .none 0)) #[])),
   (594, (Obj.mk (.type "code") none (.fields #[(.str (sO "_law_shown") 1000), (.str (sO "_law_shown") 1001), (.str (sO "/claim/cut.py") 1002), (.int 318 0), (.int 1 0), (.int 0 0), (.int 0 0), (.int 3 0), (.ref 591), (.bool true), (.int 181 0), (.ref 592), .none, .none, .none, (.ref 593), (.int 1003 0), (.int 318 0), (.str (sO "/claim/cut.py") 1004)]) #[])),
   (595, (Obj.mk (.type "function") none (.func (FuncData.mk (sO "_law_shown") (sO "_law_shown") (parOf (fnT 38)) (FuncBody.stmts (bodOf (fnT 38))) (scoOf (fnT 38)) 3 [] .none .none .none (.str (sO "law_qd0065_01") 944) none (.ref 594) .none 0)) #[])),
   (596, (Obj.mk (.type "tuple") none (.seq #[] 0) #[])),
   (597, (Obj.mk .none none (.fields #[]) #[])),
   (598, (Obj.mk (.type "tuple") none (.seq #[(.str (sO "many") 1009), (.str (sO "found") 1010), (.str (sO "size") 1011)] 0) #[])),
   (599, (Obj.mk (.type "tuple") none (.seq #[] 0) #[])),
   (600, (Obj.mk .none none (.func (FuncData.mk (sO "_law_halvings") (sO "_law_halvings") (parOf (fnT 39)) (FuncBody.stmts (bodOf (fnT 39))) (scoOf (fnT 39)) 0 [] .none .none .none .none none .none .none 0)) #[])),
   (601, (Obj.mk (.type "code") none (.fields #[(.str (sO "_law_halvings") 1006), (.str (sO "_law_halvings") 1007), (.str (sO "/claim/cut.py") 1008), (.int 334 0), (.int 1 0), (.int 0 0), (.int 0 0), (.int 3 0), (.ref 596), (.bool true), (.int 181 0), (.ref 597), .none, (.ref 598), (.ref 599), (.ref 600), (.int 1012 0), (.int 334 0), (.str (sO "/claim/cut.py") 1013)]) #[])),
   (602, (Obj.mk (.type "function") none (.func (FuncData.mk (sO "_law_halvings") (sO "_law_halvings") (parOf (fnT 39)) (FuncBody.stmts (bodOf (fnT 39))) (scoOf (fnT 39)) 3 [] .none .none .none (.str (sO "law_qd0065_01") 944) none (.ref 601) .none 0)) #[])),
   (603, (Obj.mk (.type "tuple") none (.seq #[] 0) #[])),
   (604, (Obj.mk .none none (.fields #[]) #[])),
   (605, (Obj.mk .none none (.func (FuncData.mk (sO "law") (sO "law") (parOf (fnT 40)) (FuncBody.stmts (bodOf (fnT 40))) (scoOf (fnT 40)) 0 [] .none .none .none .none none .none .none 0)) #[])),
   (606, (Obj.mk (.type "code") none (.fields #[(.str (sO "law") 1015), (.str (sO "law") 1016), (.str (sO "/claim/cut.py") 1017), (.int 339 0), (.int 1 0), (.int 0 0), (.int 0 0), (.int 3 0), (.ref 603), (.bool true), (.int 181 0), (.ref 604), .none, .none, .none, (.ref 605), (.int 1018 0), (.int 339 0), (.str (sO "/claim/cut.py") 1019)]) #[])),
   (607, (Obj.mk (.type "function") none (.func (FuncData.mk (sO "law") (sO "law") (parOf (fnT 40)) (FuncBody.stmts (bodOf (fnT 40))) (scoOf (fnT 40)) 3 [] .none .none .none (.str (sO "law_qd0065_01") 944) none (.ref 606) .none 0)) #[]))]
noncomputable def envM : Env := { scope := PG.main.scope, locals := mainNs, globals := mainNs, cells := [], code := .ref 13, frame := some 14 }
noncomputable abbrev codeM : Code := .body (behindTheImports PG) envM
noncomputable def stA (w : World) (os : OsState) : SharedT := { tree := treeA w.params, n := 15, life := {}, gens := #[], drawn := {}, toks := 187, os := os }
abbrev pos0 : Pos := ⟨0, 0, 0, 0⟩
abbrev posE : Pos := ⟨339, 0, 357, 112⟩
abbrev anM : Option Value := some (.ref 6)
noncomputable abbrev s0 (w : World) (os : OsState) : Shared := ⟨boot_heap w.params, #[], boot_drawn, boot_toks, os⟩
noncomputable def treeB (P : Params) : BT := (upd1 P).foldl (fun t p => t.ins p.1 p.2) (treeA P)
noncomputable def treeC (P : Params) : BT := (upd2 P).foldl (fun t p => t.ins p.1 p.2) (treeB P)
noncomputable def treeD (P : Params) : BT := (upd3 P).foldl (fun t p => t.ins p.1 p.2) (treeC P)
noncomputable def stB (w : World) (os : OsState) : SharedT := { tree := treeB w.params, n := 232, life := {}, gens := #[], drawn := {}, toks := 508, os := os }
noncomputable def stC (w : World) (os : OsState) : SharedT := { tree := treeC w.params, n := 355, life := {}, gens := #[], drawn := {}, toks := 680, os := os }
noncomputable def stD (w : World) (os : OsState) : SharedT := { tree := treeD w.params, n := 462, life := {}, gens := #[], drawn := {}, toks := 828, os := os }
abbrev posB : Pos := ⟨20, 0, 118, 25⟩
abbrev posC : Pos := ⟨156, 0, 157, 16⟩
abbrev posD : Pos := ⟨176, 0, 189, 65⟩
noncomputable def ss1 : List Stmt := (behindTheImports PG).take 7
noncomputable def rs1 : List Stmt := (behindTheImports PG).drop 7
noncomputable def ss2 : List Stmt := rs1.take 8
noncomputable def rs2 : List Stmt := rs1.drop 8
noncomputable def ss3 : List Stmt := rs2.take 6
noncomputable def ss4 : List Stmt := rs2.drop 6
theorem ss_all : ss1 ++ (ss2 ++ (ss3 ++ (ss4 ++ []))) = behindTheImports PG := by
  rw [List.append_nil, show ss3 ++ ss4 = rs2 from List.take_append_drop 6 rs2, show ss2 ++ rs2 = rs1 from List.take_append_drop 8 rs1]
  exact List.take_append_drop 7 _
noncomputable def treeE (P : Params) : BT := (upd4 P).foldl (fun t p => t.ins p.1 p.2) (treeD P)
noncomputable def stE (w : World) (os : OsState) : SharedT := { tree := treeE w.params, n := 608, life := {}, gens := #[], drawn := {}, toks := 1021, os := os }
theorem h_p1 (w : World) : (fun os => segRunT treeTable PG w 11 anM 1 2153 (stA w os) (piecesOf ss1 envM codeM pos0 [topFrame pos0])) = fun os => some (.next, stB w os, codeM, posB) := by
  rw [PySem.W.Fast.te10110043849684766642, PySem.W.Fast.te14364793385576792824]
  kernel_rfl
theorem h_p2 (w : World) : (fun os => segRunT treeTable PG w 11 anM 1 1558 (stB w os) (piecesOf ss2 envM codeM posB [topFrame pos0])) = fun os => some (.next, stC w os, codeM, posC) := by
  rw [PySem.W.Fast.te10110043849684766642, PySem.W.Fast.te14364793385576792824]
  kernel_rfl
theorem h_p3 (w : World) : (fun os => segRunT treeTable PG w 11 anM 1 1555 (stC w os) (piecesOf ss3 envM codeM posC [topFrame pos0])) = fun os => some (.next, stD w os, codeM, posD) := by
  rw [PySem.W.Fast.te10110043849684766642, PySem.W.Fast.te14364793385576792824]
  kernel_rfl
theorem h_p4 (w : World) : (fun os => segRunT treeTable PG w 11 anM 1 824 (stD w os) (piecesOf ss4 envM codeM posD [topFrame pos0])) = fun os => some (.next, stE w os, codeM, posE) := by
  rw [PySem.W.Fast.te10110043849684766642, PySem.W.Fast.te14364793385576792824]
  kernel_rfl
theorem h_pre (w : World) : (fun os => topGo treeTable PG w 11 anM 12 (s0 w os) (topStub PG)) = fun os => some ((stA w os).abs, ⟨denote treeTable codeM, codeM, pos0, [topFrame pos0]⟩) := by kernel_rfl
theorem h_block (w : World) (os : OsState) : segRun treeTable PG w 11 anM 1 1 (stA w os).abs (blockOf (behindTheImports PG) envM codeM pos0 [topFrame pos0]) = some (.next, (stA w os).abs, codeM, pos0) := by rfl
theorem h_fin (w : World) (s : Shared) : topRun treeTable PG w 11 anM 2 s ⟨doneF .next, codeM, posE, [topFrame pos0]⟩ = some s := by
  obtain ⟨h, g, d, k, os⟩ := s
  rfl
theorem h_size (w : World) : ((boot_heap w.params).isNs mainGlobals && (#[] : Array GenState).size == 0, (boot_heap w.params).objs.size, (boot_heap w.params).nsMap mainGlobals "__annotations__") = (true, 11, anM) := by kernel_rfl
theorem h_open (w : World) (N : Nat) (hN : Nat.ble 600 N = true) : (fencedOpening treeTable PG w N).map (fun s => (s.heap, s.gens, s.drawn, s.toks)) = some (boot_heap w.params, #[], boot_drawn, boot_toks) :=
  boot_open (p := PG) (by kernel_rfl) hN (fun s => by kernel_rfl) w
theorem run_head {α : Type} {q : Program} {loose : List Str} {Xt : Shared → Bool} {Yf : Shared → α} {Ya : World → α} {N : Nat} (hN : Nat.ble 6105 N = true)
    (look1 : ∀ w : World, (fun os => staticsOk (importedModules PG.main.body) (boot_heap w.params) (stE w os).abs.heap && namesBound PG (stE w os).abs.heap && gensDone (stE w os).abs && laidKept (boot_heap w.params) (stE w os).abs.heap) = fun _ => true)
    (look2 : ∀ w : World, (fun os => openSeen q loose (importedModules PG.main.body) Xt true (stE w os).abs) = fun _ => openGood q loose)
    (look3 : ∀ w : World, (fun os => Yf (stE w os).abs) = fun _ => Ya w) : LeftO PG q loose Xt Yf Ya N := by
  intro w
  have hN' : 600 ≤ N := Nat.le_trans (by decide) (Nat.le_of_ble_eq_true hN)
  obtain ⟨⟨h, gs, d, k, os⟩, e, e'⟩ := Option.map_eq_some_iff.mp (h_open w N (Nat.ble_eq_true_of_le hN'))
  obtain ⟨rfl, rfl, rfl, rfl⟩ : h = boot_heap w.params ∧ gs = #[] ∧ d = boot_drawn ∧ k = boot_toks := by simpa using e'
  obtain ⟨z1, z2, z3⟩ : _ ∧ _ ∧ _ := by simpa only [Prod.mk.injEq] using h_size w
  have l1 := congrFun (look1 w) os
  have l2' := congrFun (look2 w) os
  have l3' := congrFun (look3 w) os
  have r0 := piece_app (segRun_of (congrFun (h_p1 w) os)) (piece_app (segRun_of (congrFun (h_p2 w) os)) (piece_app (segRun_of (congrFun (h_p3 w) os)) (piece_app (rest := []) (segRun_of (congrFun (h_p4 w) os)) (piece_nil (h_fin w (stE w os).abs)))))
  rw [ss_all] at r0
  have r1 := go_top (congrFun (h_pre w) os) (piece_block (h_block w os) r0)
  have r := topRun_mono (N - 6105) _ _ _ _ r1
  rw [show 12 + (1 + (2153 + (1558 + (1555 + (824 + 2))))) + (N - 6105) = N by have := Nat.le_of_ble_eq_true hN; omega] at r
  have t : topFrom treeTable PG w N (s0 w os) = some (stE w os).abs := by
    unfold topFrom
    dsimp only
    rw [z1, z2, z3, r]
    show (match staticsOk (importedModules PG.main.body) (boot_heap w.params) (stE w os).abs.heap && namesBound PG (stE w os).abs.heap && gensDone (stE w os).abs && laidKept (boot_heap w.params) (stE w os).abs.heap with | true => _ | false => _) = _
    rw [l1]
  unfold openEnds
  rw [e]
  show (topFrom treeTable PG w N _).map _ = _
  rw [t]
  exact congrArg some (Prod.ext l2' l3')
theorem foldr_map {α β : Type} (f : α → β) : ∀ l : List α, l.foldr (fun a r => f a :: r) [] = l.map f
  | [] => rfl
  | a :: l => by rw [List.foldr_cons, foldr_map f l, List.map_cons]
theorem look_map {as : List Addr} {K : Params → Frag}
    (h : ∀ w : World, (fun os => as.foldr (fun a l => (stE w os).abs.heap.get? a :: l) []) = fun _ => (K w.params).map fun p => some p.2) (w : World) :
    (fun os => as.map (stE w os).abs.heap.get?) = fun _ => (K w.params).map fun p => some p.2 := by
  rw [← h w]
  funext os
  exact (foldr_map _ _).symm
-- H2
noncomputable def vw : Program := view PG [0, 2, 3, 5, 6, 8, 9, 10, 11, 12, 13, 14, 15, 16, 17, 18, 19, 20, 21, 22, 23, 24, 26, 28, 29, 30, 32, 33, 34, 35, 36, 37, 38, 39, 40]
def lo : List Str := [Str.ofString "ToolError", Str.ofString "CharSet", Str.ofString "Node", Str.ofString "Empty", Str.ofString "Never", Str.ofString "Chars", Str.ofString "Cat", Str.ofString "Alt", Str.ofString "Star", Str.ofString "Plus", Str.ofString "Opt", Str.ofString "Repeat"]
theorem h_look1 (w : World) : (fun os => staticsOk (importedModules PG.main.body) (boot_heap w.params) (stE w os).abs.heap && namesBound PG (stE w os).abs.heap && gensDone (stE w os).abs && laidKept (boot_heap w.params) (stE w os).abs.heap) = fun _ => true := by
  rw [PySem.W.Fast.te5923862056798008813]
  kernel_rfl
theorem l2a (w : World) : (fun os => seen ((recsOf vw).map (·.name)) (ownsOf vw) [] { (stE w os).abs with gens := #[] }) = fun _ => expectedOf vw := by kernel_rfl
theorem l2b (w : World) : (fun os => (stE w os).abs.heap.bltView) = fun _ => bltViewBooted := by kernel_rfl
theorem l2c (w : World) : (fun os => (stE w os).abs.heap.keysOk (looseW vw lo) ((recsOf vw).map (·.name)) ((litsOf vw).map (·.1)) ((clssOf vw (looseW vw lo)).map (·.name)) && (stE w os).abs.heap.accountedOkI (importedModules PG.main.body) && (stE w os).abs.heap.isNs mainGlobals && (stE w os).abs.heap.isNs builtinsNs && tablesOk vw (stE w os).abs.heap && (xlAt vw [] (stE w os).abs && recOk (RowW.records PySem.Challenge.rw_qd0065_01.row.toRowW) (stE w os).abs) && (if true then (stE w os).abs.gens.size == 0 else !leftWithCleanup (stE w os).abs.gens)) = fun _ => true := by
  rw [PySem.W.Fast.te5923862056798008813]
  kernel_rfl
theorem l2d (w : World) : (fun os => tabsOk vw (stE w os).abs) = fun _ => true := by kernel_rfl
theorem l2e (w : World) : (fun os => pinSeenD vw (drecsOf vw) (stE w os).abs) = fun _ => pinGoodD (drecsOf vw) := by kernel_rfl
theorem l2f (w : World) : (fun os => plainSeenE vw (looseW vw lo) (stE w os).abs) = fun _ => plainGoodE vw (looseW vw lo) := by kernel_rfl
theorem l2g (w : World) : (fun os => plainSeenD vw lo (stE w os).abs) = fun _ => plainGoodD vw lo := by kernel_rfl
theorem l2h (w : World) : (fun os => wideSeen vw (stE w os).abs) = fun _ => wideGood vw := by kernel_rfl
theorem l2i (w : World) : (fun os => clsSeenW vw lo (stE w os).abs) = fun _ => clsGoodW vw lo := by kernel_rfl
theorem openSeen_of {q : Program} {loose mods : List Str} {Xt : Shared → Bool} {s : Shared}
    (a : seen ((recsOf q).map (·.name)) (ownsOf q) [] { s with gens := #[] } = expectedOf q) (b : s.heap.bltView = bltViewBooted)
    (c : (s.heap.keysOk (looseW q loose) ((recsOf q).map (·.name)) ((litsOf q).map (·.1)) ((clssOf q (looseW q loose)).map (·.name)) && s.heap.accountedOkI mods && s.heap.isNs mainGlobals && s.heap.isNs builtinsNs && tablesOk q s.heap && Xt s && (if true then s.gens.size == 0 else !leftWithCleanup s.gens)) = true)
    (d : tabsOk q s = true) (e : pinSeenD q (drecsOf q) s = pinGoodD (drecsOf q)) (f : plainSeenE q (looseW q loose) s = plainGoodE q (looseW q loose)) (g : plainSeenD q loose s = plainGoodD q loose) (h : wideSeen q s = wideGood q) (i : clsSeenW q loose s = clsGoodW q loose) :
    openSeen q loose mods Xt true s = openGood q loose := by
  unfold openSeen openGood
  rw [a, b, c, d, e, f, g, h, i]
theorem h_look2 (w : World) : (fun os => openSeen vw lo (importedModules PG.main.body) (fun s => xlAt vw [] s && recOk (RowW.records PySem.Challenge.rw_qd0065_01.row.toRowW) s) true (stE w os).abs) = fun _ => openGood vw lo := by
  funext os
  exact openSeen_of (congrFun (l2a w) os) (congrFun (l2b w) os) (congrFun (l2c w) os) (congrFun (l2d w) os) (congrFun (l2e w) os) (congrFun (l2f w) os) (congrFun (l2g w) os) (congrFun (l2h w) os) (congrFun (l2i w) os)
theorem lk1 : namesResolve PG = true := by kernel_rfl
theorem lk2 : noRoadLSs { strict := !(importedModules PG.main.body).all cThrough.contains, foot := none, bare := (["vars", "dir", "locals"] : List Str).filter (readsOut PG PG.main.body) } PG.main.body = true := by kernel_rfl
theorem lk3 : (namesMeet PG PG.main.body fun _ n => attrL n) = true := by kernel_rfl
theorem h_looks : looksOpen PG = true := by
  unfold looksOpen
  rw [lk1, lk2, lk3]
  kernel_rfl
theorem h_well : PySem.Challenge.rw_qd0065_01.wellSaid = true := by
  unfold OpenLaw.wellSaid OpenRow.wellSaid OpenRow.partSaid
  rw [show looksOpen PySem.Challenge.rw_qd0065_01.row.prog = true from h_looks]
  kernel_rfl
local macro_rules | `(tactic| o_law) => `(tactic| refine holds_law Mine.h_well fun said => ?_)
local macro_rules | `(tactic| o_head $H) => `(tactic| (
  refine holds_open (q := Mine.vw) (loose := Mine.lo) (Xt := fun s => xlAt Mine.vw [] s && recOk (RowW.records PySem.Challenge.rw_qd0065_01.row.toRowW) s) (XP := XL Mine.vw []) (Yf := Hook.obs $H) (Ya := Hook.val $H) (YP := Hook.says $H) (N := 12298) ?hl (Hook.of $H) (Hook.keeps $H) (fun s e => xl_of s (Bool.and_eq_true_iff.mp e).1) XL.keeps (by rfl) (by rfl) (by rfl) (fun s e => recFacts_of (Bool.and_eq_true_iff.mp e).2) (by rfl) (by first | assumption | decide +kernel) (by decide +kernel) ⟨rfl, rfl, rfl, rfl, rfl, by decide +kernel⟩ ?hw ?hc
  case hl => exact Mine.run_head (by decide) Mine.h_look1 Mine.h_look2 (Mine.look_map fun w => by kernel_rfl)))
open_top hd for PySem.Challenge.rw_qd0065_01
-- W1
noncomputable abbrev HV : Program := vw
abbrev LN : List Str := lo

/-- the world of one run, and what the top means -/
structure G where
  w : World
  mean : ExcName → Option Value
  mg : Str → Option Value
  mb : Str → Option Value
  scr : Addr
  svs : List Value
  sns : List Int
  are : IntsAre svs sns

/-- values as plain data -/
inductive V where
  | none
  | bool (b : Bool)
  | int (i : Int)
  | str (s : Str)
  | tup (vs : List V)
  | list (vs : List V)
  | inst (c : Addr) (fs : List (Str × V))
  | raw (v : Value)
  | cell (a : Addr)
  | obj (c d : Addr)
  | adr (o : Obj)

/-- what may still turn: a list, an object's dict -/
inductive Cel where
  | list (vs : List V)
  | arr (vs : List V)
  | dict (fs : List (Str × V))

abbrev Led := List (Addr × Obj)
abbrev Store := List (Addr × Cel)
abbrev tupO (vs : List Value) (n : Nat) : Obj := { cls := .type "tuple", data := .seq vs.toArray n }
abbrev lstO (vs : List Value) (n : Nat) : Obj := { cls := .type "list", data := .seq vs.toArray n }
abbrev insO (c d : Addr) : Obj := ⟨.ref c, some d, .plain, #[]⟩

mutual
inductive Rep (fz : Led) : Value → V → Prop
  | none : Rep fz .none .none
  | bool {b : Bool} : Rep fz (.bool b) (.bool b)
  | int {i : Int} {t : Tok} : Rep fz (.int i t) (.int i)
  | str {s : Str} {t : Tok} : Rep fz (.str s t) (.str s)
  | raw {v : Value} : Rep fz v (.raw v)
  | cell {a : Addr} : Rep fz (.ref a) (.cell a)
  | obj {a c d : Addr} : (a, insO c d) ∈ fz → Rep fz (.ref a) (.obj c d)
  | adr {a : Addr} {o : Obj} : (a, o) ∈ fz → (a == sysModules) = false → Rep fz (.ref a) (.adr o)
  | tup {a : Addr} {vs : List Value} {n : Nat} {Vs : List V} : (a, tupO vs n) ∈ fz → Reps fz vs Vs → Rep fz (.ref a) (.tup Vs)
  | list {a : Addr} {vs : List Value} {n : Nat} {Vs : List V} : (a, lstO vs n) ∈ fz → Reps fz vs Vs → Rep fz (.ref a) (.list Vs)
  | inst {a d c : Addr} {es : List DictEntry} {n : Nat} {fs : List (Str × V)} : (a, insO c d) ∈ fz → (d, dictOf es n) ∈ fz → Flds fz es fs → Rep fz (.ref a) (.inst c fs)
inductive Reps (fz : Led) : List Value → List V → Prop
  | nil : Reps fz [] []
  | cons {v : Value} {X : V} {vs : List Value} {Vs : List V} : Rep fz v X → Reps fz vs Vs → Reps fz (v :: vs) (X :: Vs)
inductive Flds (fz : Led) : List DictEntry → List (Str × V) → Prop
  | nil : Flds fz [] []
  | cons {x : Str} {h : Int} {t : Tok} {v : Value} {X : V} {es : List DictEntry} {fs : List (Str × V)} : Rep fz v X → Flds fz es fs → Flds fz (⟨h, .str x t, v⟩ :: es) ((x, X) :: fs)
end

def Sub (fz fz' : Led) : Prop := ∀ p ∈ fz, p ∈ fz'
theorem Sub.refl (fz : Led) : Sub fz fz := fun _ h => h
theorem Sub.trans {a b c : Led} (h : Sub a b) (k : Sub b c) : Sub a c := fun p hp => k p (h p hp)
theorem Sub.cons (p : Addr × Obj) (fz : Led) : Sub fz (p :: fz) := fun _ h => .tail _ h

mutual
theorem Rep.mono {fz fz' : Led} (hs : Sub fz fz') : ∀ {v : Value} {X : V}, Rep fz v X → Rep fz' v X
  | _, _, .none => .none
  | _, _, .bool => .bool
  | _, _, .int => .int
  | _, _, .str => .str
  | _, _, .raw => .raw
  | _, _, .cell => .cell
  | _, _, .obj h => .obj (hs _ h)
  | _, _, .adr h lo => .adr (hs _ h) lo
  | _, _, .tup h k => .tup (hs _ h) (Reps.mono hs k)
  | _, _, .list h k => .list (hs _ h) (Reps.mono hs k)
  | _, _, .inst h h' k => .inst (hs _ h) (hs _ h') (Flds.mono hs k)
theorem Reps.mono {fz fz' : Led} (hs : Sub fz fz') : ∀ {vs : List Value} {Vs : List V}, Reps fz vs Vs → Reps fz' vs Vs
  | _, _, .nil => .nil
  | _, _, .cons h k => .cons (Rep.mono hs h) (Reps.mono hs k)
theorem Flds.mono {fz fz' : Led} (hs : Sub fz fz') : ∀ {es : List DictEntry} {fs : List (Str × V)}, Flds fz es fs → Flds fz' es fs
  | _, _, .nil => .nil
  | _, _, .cons h k => .cons (Rep.mono hs h) (Flds.mono hs k)
end
theorem Reps.length {fz : Led} : ∀ {vs : List Value} {Vs : List V}, Reps fz vs Vs → vs.length = Vs.length
  | _, _, .nil => rfl
  | _, _, .cons _ k => by simp [k.length]
theorem Reps.get {fz : Led} : ∀ {vs : List Value} {Vs : List V}, Reps fz vs Vs → ∀ {i : Nat} {X : V}, Vs[i]? = some X → ∃ v, vs[i]? = some v ∧ Rep fz v X
  | _, _, .nil, i, X, h => by simp at h
  | _, _, .cons h k, 0, X, e => by simp at e; subst e; exact ⟨_, rfl, h⟩
  | _, _, .cons h k, i + 1, X, e => by simp at e; obtain ⟨v, a, b⟩ := k.get e; exact ⟨v, by simpa using a, b⟩
theorem Reps.append {fz : Led} : ∀ {vs : List Value} {Vs : List V} {us : List Value} {Us : List V}, Reps fz vs Vs → Reps fz us Us → Reps fz (vs ++ us) (Vs ++ Us)
  | _, _, _, _, .nil, k => k
  | _, _, _, _, .cons h r, k => .cons h (r.append k)
theorem Reps.take {fz : Led} : ∀ {vs : List Value} {Vs : List V}, Reps fz vs Vs → ∀ n, Reps fz (vs.take n) (Vs.take n)
  | _, _, .nil, n => by simp; exact .nil
  | _, _, .cons h r, 0 => by simp; exact .nil
  | _, _, .cons h r, n + 1 => by simp; exact .cons h (r.take n)
theorem Reps.drop {fz : Led} : ∀ {vs : List Value} {Vs : List V}, Reps fz vs Vs → ∀ n, Reps fz (vs.drop n) (Vs.drop n)
  | _, _, .nil, n => by simp; exact .nil
  | _, _, .cons h r, 0 => by simp; exact .cons h r
  | _, _, .cons h r, n + 1 => by simp; exact r.drop n
theorem Reps.reverse {fz : Led} : ∀ {vs : List Value} {Vs : List V}, Reps fz vs Vs → Reps fz vs.reverse Vs.reverse
  | _, _, .nil => .nil
  | _, _, .cons h r => by simp only [List.reverse_cons]; exact r.reverse.append (.cons h .nil)

inductive CelRep (fz : Led) : Obj → Cel → Prop
  | list {vs : List Value} {n : Nat} {Vs : List V} : Reps fz vs Vs → CelRep fz (lstO vs n) (.list Vs)
  | arr {o : Obj} {vs : List Value} {n : Nat} {Vs : List V} : o.cls = .type "list" → o.data = .seq vs.toArray n → Reps fz vs Vs → CelRep fz o (.arr Vs)
  | dict {es : List DictEntry} {n : Nat} {fs : List (Str × V)} : Flds fz es fs → CelRep fz (dictOf es n) (.dict fs)
theorem CelRep.mono {fz fz' : Led} (hs : Sub fz fz') {o : Obj} {x : Cel} : CelRep fz o x → CelRep fz' o x
  | .list h => .list (h.mono hs)
  | .arr a b h => .arr a b (h.mono hs)
  | .dict h => .dict (h.mono hs)
inductive CellsRep (fz : Led) : Led → Store → Prop
  | nil : CellsRep fz [] []
  | cons {a : Addr} {o : Obj} {x : Cel} {ce : Led} {σ : Store} : CelRep fz o x → CellsRep fz ce σ → CellsRep fz ((a, o) :: ce) ((a, x) :: σ)
theorem CellsRep.mono {fz fz' : Led} (hs : Sub fz fz') : ∀ {ce : Led} {σ : Store}, CellsRep fz ce σ → CellsRep fz' ce σ
  | _, _, .nil => .nil
  | _, _, .cons h k => .cons (h.mono hs) (k.mono hs)
theorem CellsRep.addr {fz : Led} : ∀ {ce : Led} {σ : Store}, CellsRep fz ce σ → ce.map (·.1) = σ.map (·.1)
  | _, _, .nil => rfl
  | _, _, .cons _ k => by simp [k.addr]
theorem CellsRep.find {fz : Led} {a : Addr} {x : Cel} : ∀ {ce : Led} {σ : Store}, CellsRep fz ce σ → σ.lookup a = some x → ∃ o, (a, o) ∈ ce ∧ CelRep fz o x
  | _, _, .nil, e => by simp at e
  | _, _, .cons (a := b) (o := o) h k, e => by
    rw [List.lookup_cons] at e
    split at e
    · rename_i hb; cases e; rw [beq_iff_eq.mp hb]; exact ⟨o, .head _, h⟩
    · obtain ⟨o', p, q⟩ := k.find e; exact ⟨o', .tail _ p, q⟩
/-- one cell's new content -/
def put (σ : Store) (a : Addr) (x : Cel) : Store := σ.map fun p => if p.1 = a then (a, x) else p
theorem CellsRep.put {fz : Led} {a : Addr} {x : Cel} {o : Obj} (h : CelRep fz o x) : ∀ {ce : Led} {σ : Store}, CellsRep fz ce σ → CellsRep fz (ce.map fun p => if p.1 = a then (a, o) else p) (Mine.put σ a x)
  | _, _, .nil => .nil
  | _, _, .cons (a := b) h' k => by
    simp only [Mine.put, List.map_cons]
    by_cases hb : b = a
    · rw [if_pos hb, if_pos hb]; exact .cons h (CellsRep.put h k)
    · rw [if_neg hb, if_neg hb]; exact .cons h' (CellsRep.put h k)

/-- what a frame stands on -/
structure Cx (g : G) (d : Nat) (A : Around) (fenv : Env) (h₀ : Heap) : Prop where
  bel : ∃ A₀ base outer, Below A₀ base outer h₀ ∧ A.frames = some (fenv :: outer)
  fr : fenv.frame = some fenv.locals
  kd : fenv.scope.kind = .function
  X : (hd.heap_1 g.w.params).In h₀
  T : Top HV (looseW HV LN) g.mean g.mg g.mb h₀
  sc : h₀.IsList g.scr g.svs.toArray
  hh : A.handled = none
  room : A.depth + d < recursionLimit
  units : A.units + 8 * d < cLine

theorem Cx.le {g : G} {d d' : Nat} {A : Around} {fenv : Env} {h₀ : Heap} (C : Cx g d A fenv h₀) (h : d' ≤ d) : Cx g d' A fenv h₀ :=
  ⟨C.bel, C.fr, C.kd, C.X, C.T, C.sc, C.hh, Nat.lt_of_le_of_lt (Nat.add_le_add_left h _) C.room, Nat.lt_of_le_of_lt (Nat.add_le_add_left (Nat.mul_le_mul_left _ h) _) C.units⟩

/-- a name's value at hand -/
inductive Rd (env : Env) (m : Str → Option Value) (oc ob : Led) (L : Addr) (x : Str) (v : Value) : Prop
  | loc : env.locals = L → env.kindOf x = some .local → m x = some v → Rd env m oc ob L x v
  | cel {c : Addr} {o : Obj} : env.kindOf x = some .cell → env.cells.lookup x = some c → (c, o) ∈ oc → o.data = .cell (some v) → Rd env m oc ob L x v
  | cmp {o : Obj} {m₂ : Str → Option Value} : env.kindOf x = some .local → (env.locals, o) ∈ ob → LCg.NsObj o m₂ → m₂ x = some v → Rd env m oc ob L x v

structure Cfg where
  d : Nat
  fenv : Env
  env : Env

abbrev Env₁ := List (Str × V)
def LR (env : Env) (m : Str → Option Value) (oc ob : Led) (L : Addr) (fz : Led) (ρ : Env₁) : Prop :=
  ∀ x X, ρ.lookup x = some X → ∃ v, Rd env m oc ob L x v ∧ Rep fz v X
theorem LR.mono {env : Env} {m : Str → Option Value} {oc ob : Led} {L : Addr} {fz fz' : Led} {ρ : Env₁} (h : LR env m oc ob L fz ρ) (hs : Sub fz fz') : LR env m oc ob L fz' ρ :=
  fun x X e => let ⟨v, a, b⟩ := h x X e; ⟨v, a, b.mono hs⟩

structure St (g : G) (c : Cfg) (ρ : Env₁) (A : Around) (h₀ : Heap) (s : Shared) (m : Str → Option Value) (oc ob ce fz : Led) (σ : Store) : Prop where
  cx : Cx g c.d A c.fenv h₀
  ek : c.env.scope.kind = .function
  eg : c.env.globals = mainGlobals
  eb : c.env.builtins = builtinsNs
  F : Fr h₀ c.fenv.locals s.heap m
  N : News h₀ c.fenv.locals s.heap ((oc ++ ob) ++ (ce ++ fz))
  nd : ((oc ++ ob ++ ce).map (·.1)).Nodup
  off : ∀ p ∈ oc ++ ob ++ ce, ∀ q ∈ fz, p.1 ≠ q.1
  cs : CellsRep fz ce σ
  lr : LR c.env m oc ob c.fenv.locals fz ρ
  cl : c.env = c.fenv → ∀ x a, c.env.cells.lookup x = some a → ∃ o v, (a, o) ∈ oc ∧ o.data = .cell v

/-- an expression's tree, the values at hand handed in -/
def Wp (g : G) (c : Cfg) (ρ : Env₁) (σ : Store) (Vs : List V) {α β : Type} (RR : Led → α → β → Prop) (t : List Value → Sem α) (Q : β → Store → Prop) : Prop :=
  ∀ A h₀ s m oc ob ce fz vs, St g c ρ A h₀ s m oc ob ce fz σ → Reps fz vs Vs →
    ∀ P : α → Shared → Prop, (∀ a b σ' h' tk' ce' fz', St g c ρ A h₀ { s with heap := h', toks := tk' } m oc ob ce' fz' σ' → Sub fz fz' → RR fz' a b → Q b σ' → P a { s with heap := h', toks := tk' }) →
      wpAny (model PG g.w) A (t vs) P (fun _ _ => False) s

abbrev We (g : G) (c : Cfg) (ρ : Env₁) (σ : Store) (e : Expr) (Q : V → Store → Prop) : Prop := Wp g c ρ σ [] Rep (fun _ => eval e c.env) Q
def EqB (_ : Led) (a b : Bool) : Prop := a = b
def EqU (_ : Led) (_ _ : Unit) : Prop := True
/-- a test -/
abbrev Wt (g : G) (c : Cfg) (ρ : Env₁) (σ : Store) (e : Expr) (Q : Bool → Store → Prop) : Prop := Wp g c ρ σ [] EqB (fun _ => isTrue e c.env (eval e c.env)) Q

theorem Wp.mono {g : G} {c : Cfg} {ρ : Env₁} {σ : Store} {Vs : List V} {α β : Type} {RR : Led → α → β → Prop} {t : List Value → Sem α} {Q Q' : β → Store → Prop} (h : Wp g c ρ σ Vs RR t Q) (k : ∀ b σ', Q b σ' → Q' b σ') : Wp g c ρ σ Vs RR t Q' :=
  fun A h₀ s m oc ob ce fz vs S R P hP => h A h₀ s m oc ob ce fz vs S R P fun a b σ' h' tk' ce' fz' S' sb r q => hP a b σ' h' tk' ce' fz' S' sb r (k _ _ q)

inductive Fl where
  | next | brk | cont | ret (X : V)
inductive RepF (fz : Led) : Flow → Fl → Prop
  | next : RepF fz .next .next
  | brk : RepF fz .brk .brk
  | cont : RepF fz .cont .cont
  | ret {v : Value} {X : V} : Rep fz v X → RepF fz (.ret v) (.ret X)

/-- a statement's tree -/
def Ws (g : G) (c : Cfg) (ρ : Env₁) (σ : Store) (t : Sem Flow) (Q : Fl → Env₁ → Store → Prop) : Prop :=
  ∀ A h₀ s m oc ob ce fz, St g c ρ A h₀ s m oc ob ce fz σ →
    ∀ P : Flow → Shared → Prop, (∀ f fl ρ' σ' h' tk' m' oc' ce' fz', St g c ρ' A h₀ { s with heap := h', toks := tk' } m' oc' ob ce' fz' σ' → Sub fz fz' → RepF fz' f fl → Q fl ρ' σ' → P f { s with heap := h', toks := tk' }) →
      wpAny (model PG g.w) A t P (fun _ _ => False) s
abbrev Wss (g : G) (c : Cfg) (ρ : Env₁) (σ : Store) (b : List Stmt) (Q : Fl → Env₁ → Store → Prop) : Prop := Ws g c ρ σ (execs b c.env) Q
abbrev Wx (g : G) (c : Cfg) (ρ : Env₁) (σ : Store) (st : Stmt) (Q : Fl → Env₁ → Store → Prop) : Prop := Ws g c ρ σ (exec st c.env) Q

theorem Ws.mono {g : G} {c : Cfg} {ρ : Env₁} {σ : Store} {t : Sem Flow} {Q Q' : Fl → Env₁ → Store → Prop} (h : Ws g c ρ σ t Q) (k : ∀ f ρ' σ', Q f ρ' σ' → Q' f ρ' σ') : Ws g c ρ σ t Q' :=
  fun A h₀ s m oc ob ce fz S P hP => h A h₀ s m oc ob ce fz S P fun f fl ρ' σ' h' tk' m' oc' ce' fz' S' sb r q => hP f fl ρ' σ' h' tk' m' oc' ce' fz' S' sb r (k _ _ _ q)

/-- a call's ends -/
def Back (P : Value → Shared → Prop) (r : Result) (s' : Shared) : Prop := match r with
  | .ok (.ret v) => P v s'
  | .ok _ => False
  | .error _ => False
/-- a call of the text's own, from any frame -/
def Wc (g : G) (d : Nat) (f : Value) (σ : Store) (Vs : List V) (Q : V → Store → Prop) : Prop :=
  ∀ (c : Cfg) (ρ : Env₁), d ≤ c.d → ∀ A h₀ s m oc ob ce fz vs, St g c ρ A h₀ s m oc ob ce fz σ → Reps fz vs Vs →
    ∀ P : Value → Shared → Prop, (∀ a b σ' h' tk' ce' fz', St g c ρ A h₀ { s with heap := h', toks := tk' } m oc ob ce' fz' σ' → Sub fz fz' → Rep fz' a b → Q b σ' → P a { s with heap := h', toks := tk' }) →
      codeAny (model PG g.w) A (.call f ⟨vs, []⟩) (Back P) s
theorem Wc.wp {g : G} {d : Nat} {f : Value} {σ : Store} {Vs : List V} {Q : V → Store → Prop} (h : Wc g d f σ Vs Q) {c : Cfg} {ρ : Env₁} (hd : d ≤ c.d) : Wp g c ρ σ Vs Rep (fun vs => call f vs) Q :=
  fun A h₀ s m oc ob ce fz vs S R P hP => wpAny_call (h c ρ hd A h₀ s m oc ob ce fz vs S R P hP)

theorem Wc.mono {g : G} {d : Nat} {f : Value} {σ : Store} {Vs : List V} {Q Q' : V → Store → Prop} (h : Wc g d f σ Vs Q) (k : ∀ b σ', Q b σ' → Q' b σ') : Wc g d f σ Vs Q' :=
  fun c ρ hd A h₀ s m oc ob ce fz vs S R P hP => h c ρ hd A h₀ s m oc ob ce fz vs S R P fun a b σ' h' tk' ce' fz' S' sb r q => hP a b σ' h' tk' ce' fz' S' sb r (k _ _ q)
theorem Wc.le {g : G} {d d' : Nat} {f : Value} {σ : Store} {Vs : List V} {Q : V → Store → Prop} (h : Wc g d f σ Vs Q) (k : d ≤ d') : Wc g d' f σ Vs Q :=
  fun c ρ hd => h c ρ (Nat.le_trans k hd)

section
variable {g : G} {c : Cfg} {ρ : Env₁} {σ : Store} {A : Around} {h₀ : Heap} {s : Shared} {m : Str → Option Value} {oc ob ce fz : Led}
theorem St.No (S : St g c ρ A h₀ s m oc ob ce fz σ) : News h₀ c.fenv.locals s.heap (oc ++ ob) := fun p hp => S.N p (List.mem_append.mpr (.inl hp))
theorem St.Nc (S : St g c ρ A h₀ s m oc ob ce fz σ) : News h₀ c.fenv.locals s.heap ce := fun p hp => S.N p (List.mem_append.mpr (.inr (List.mem_append.mpr (.inl hp))))
theorem St.Nz (S : St g c ρ A h₀ s m oc ob ce fz σ) : News h₀ c.fenv.locals s.heap fz := fun p hp => S.N p (List.mem_append.mpr (.inr (List.mem_append.mpr (.inr hp))))
theorem St.KX (S : St g c ρ A h₀ s m oc ob ce fz σ) : (hd.heap_1 g.w.params).In s.heap := S.cx.X.keeps S.F.keep
theorem St.TR (S : St g c ρ A h₀ s m oc ob ce fz σ) : TopRead HV (looseW HV LN) g.mg g.mb h₀ := topRead_of S.cx.T
theorem St.uni (S : St g c ρ A h₀ s m oc ob ce fz σ) : A.units < cLine := Nat.lt_of_le_of_lt (Nat.le_add_right _ _) S.cx.units
theorem St.toks (S : St g c ρ A h₀ s m oc ob ce fz σ) (tk : Nat) : St g c ρ A h₀ { s with toks := tk } m oc ob ce fz σ := ⟨S.cx, S.ek, S.eg, S.eb, S.F, S.N, S.nd, S.off, S.cs, S.lr, S.cl⟩
theorem St.env (S : St g c ρ A h₀ s m oc ob ce fz σ) {ρ' : Env₁} (h : LR c.env m oc ob c.fenv.locals fz ρ') : St g c ρ' A h₀ s m oc ob ce fz σ := ⟨S.cx, S.ek, S.eg, S.eb, S.F, S.N, S.nd, S.off, S.cs, h, S.cl⟩

/-- a heap that keeps all of it -/
theorem St.keeps (S : St g c ρ A h₀ s m oc ob ce fz σ) {h' : Heap} (tk : Nat) (hk : ∀ b o, s.heap.get? b = some o → h'.get? b = some o) : St g c ρ A h₀ { s with heap := h', toks := tk } m oc ob ce fz σ := by
  obtain ⟨oL, es, ep, hL, r⟩ := S.F.ns
  exact ⟨S.cx, S.ek, S.eg, S.eb, ⟨⟨oL, es, ep, hk _ _ hL, r⟩, fun b o e => hk _ _ (S.F.keep b o e), S.F.above⟩, fun p hp => ⟨hk _ _ (S.N p hp).1, (S.N p hp).2⟩, S.nd, S.off, S.cs, S.lr, S.cl⟩
/-- more frozen objects, known to be the frame's own -/
theorem St.more (S : St g c ρ A h₀ s m oc ob ce fz σ) {add : Led} (hn : News h₀ c.fenv.locals s.heap add) (ho : ∀ p ∈ oc ++ ob ++ ce, ∀ q ∈ add, p.1 ≠ q.1) : St g c ρ A h₀ s m oc ob ce (add ++ fz) σ := by
  have sb : Sub fz (add ++ fz) := fun p hp => List.mem_append.mpr (.inr hp)
  refine ⟨S.cx, S.ek, S.eg, S.eb, S.F, fun p hp => ?_, S.nd, fun p hp q hq => ?_, S.cs.mono sb, S.lr.mono sb, S.cl⟩
  · rcases List.mem_append.mp hp with h | h
    · exact S.N p (List.mem_append.mpr (.inl h))
    · rcases List.mem_append.mp h with h | h
      · exact S.Nc p h
      · rcases List.mem_append.mp h with h | h
        · exact hn p h
        · exact S.Nz p h
  · rcases List.mem_append.mp hq with h | h
    · exact ho p hp q h
    · exact S.off p hp q h
theorem St.all (S : St g c ρ A h₀ s m oc ob ce fz σ) : ∀ p ∈ oc ++ ob ++ ce, News h₀ c.fenv.locals s.heap [p] := fun p hp q hq => by
  obtain rfl := List.mem_singleton.mp hq
  rcases List.mem_append.mp hp with h | h
  · exact S.No _ h
  · exact S.Nc _ h
/-- a new object, frozen at once -/
theorem St.push (S : St g c ρ A h₀ s m oc ob ce fz σ) (o : Obj) (hf : o.isFreed = false) (tk : Nat) : St g c ρ A h₀ { s with heap := s.heap.push o, toks := tk } m oc ob ce ((s.heap.objs.size, o) :: fz) σ := by
  have S' := S.keeps (h' := s.heap.push o) tk fun b o' e => Heap.get?_push_of_some _ e
  have N := S.N.push S.F o hf
  refine S'.more (add := [(s.heap.objs.size, o)]) (fun p hp => N p (by rw [List.mem_singleton.mp hp]; exact .head _)) fun p hp q hq => ?_
  rw [List.mem_singleton.mp hq]
  exact Nat.ne_of_lt (Heap.lt_size ((S.all p hp) p (.head _)).1)
/-- what a rule of the library hands back: one more object, new -/
theorem St.ofNews (S : St g c ρ A h₀ s m oc ob ce fz σ) {h' : Heap} {o : Obj} (tk : Nat) (F' : Fr h₀ c.fenv.locals h' m) (N' : News h₀ c.fenv.locals h' ((s.heap.objs.size, o) :: ((oc ++ ob) ++ (ce ++ fz)))) :
    St g c ρ A h₀ { s with heap := h', toks := tk } m oc ob ce ((s.heap.objs.size, o) :: fz) σ := by
  have sb : Sub fz ((s.heap.objs.size, o) :: fz) := Sub.cons _ _
  refine ⟨S.cx, S.ek, S.eg, S.eb, F', fun p hp => N' p ?_, S.nd, fun p hp q hq => ?_, S.cs.mono sb, S.lr.mono sb, S.cl⟩
  · simp only [List.mem_append, List.mem_cons] at hp ⊢
    rcases hp with (h | h) | h | h | h <;> simp [h]
  · rcases List.mem_cons.mp hq with rfl | hq
    · exact Nat.ne_of_lt (Heap.lt_size ((S.all p hp) p (.head _)).1)
    · exact S.off p hp q hq
/-- .. or none -/
theorem St.ofSame (S : St g c ρ A h₀ s m oc ob ce fz σ) {h' : Heap} (tk : Nat) (F' : Fr h₀ c.fenv.locals h' m) (N' : News h₀ c.fenv.locals h' ((oc ++ ob) ++ (ce ++ fz))) :
    St g c ρ A h₀ { s with heap := h', toks := tk } m oc ob ce fz σ := ⟨S.cx, S.ek, S.eg, S.eb, F', N', S.nd, S.off, S.cs, S.lr, S.cl⟩
/-- a new object that may turn -/
theorem St.newCell (S : St g c ρ A h₀ s m oc ob ce fz σ) {o : Obj} {x : Cel} (hf : o.isFreed = false) (hx : CelRep fz o x) (tk : Nat) : St g c ρ A h₀ { s with heap := s.heap.push o, toks := tk } m oc ob ((s.heap.objs.size, o) :: ce) fz ((s.heap.objs.size, x) :: σ) := by
  have S' := S.keeps (h' := s.heap.push o) tk fun b o' e => Heap.get?_push_of_some _ e
  have N := S.N.push S.F o hf
  have new : ∀ p ∈ (oc ++ ob) ++ (ce ++ fz), p.1 ≠ s.heap.objs.size := fun p hp => Nat.ne_of_lt (Heap.lt_size (S.N p hp).1)
  refine ⟨S.cx, S.ek, S.eg, S.eb, S'.F, fun p hp => ?_, ?_, fun p hp q hq => ?_, .cons hx S.cs, S.lr, S.cl⟩
  · refine N p ?_
    simp only [List.mem_append, List.mem_cons] at hp ⊢
    rcases hp with (h | h) | (h | h) | h <;> simp [h]
  · have := S.nd
    simp only [List.map_append, List.map_cons] at this ⊢
    refine (List.perm_middle.nodup_iff).mpr (List.nodup_cons.mpr ⟨fun hm => ?_, this⟩)
    have hm' : s.heap.objs.size ∈ (oc ++ ob ++ ce).map (·.1) := by simpa [List.map_append] using hm
    obtain ⟨p, hp, e⟩ := List.mem_map.mp hm'
    refine new p ?_ e
    simp only [List.mem_append] at hp ⊢
    rcases hp with (h | h) | h <;> simp [h]
  · simp only [List.mem_append, List.mem_cons] at hp
    rcases hp with (h | h) | rfl | h
    · exact S.off p (by simp [h]) q hq
    · exact S.off p (by simp [h]) q hq
    · exact Ne.symm (new q (by simp [hq]))
    · exact S.off p (by simp [h]) q hq
/-- a cell's object turned -/
theorem St.setCell (S : St g c ρ A h₀ s m oc ob ce fz σ) {a : Addr} {o o' : Obj} {x' : Cel} {h' : Heap} (hm : (a, o) ∈ ce) (hx : CelRep fz o' x') (tk : Nat) (ho : h'.get? a = some o') (hs : Heap.SameBut a s.heap h') :
    St g c ρ A h₀ { s with heap := h', toks := tk } m oc ob (ce.map fun p => if p.1 = a then (a, o') else p) fz (put σ a x') := by
  have z := S.Nc (a, o) hm
  have nd := S.nd
  rw [List.map_append, List.nodup_append] at nd
  have ne : ∀ p ∈ oc ++ ob, p.1 ≠ a := fun p hp e => nd.2.2 p.1 (List.mem_map_of_mem hp) a (List.mem_map.mpr ⟨(a, o), hm, rfl⟩) e
  have nz : ∀ p ∈ fz, p.1 ≠ a := fun p hp e => S.off (a, o) (by simp [hm]) p hp e.symm
  have keep : ∀ p ∈ (oc ++ ob) ++ (ce ++ fz), p.1 ≠ a → h'.get? p.1 = some p.2 ∧ p.1 ≠ c.fenv.locals ∧ h₀.get? p.1 = none := fun p hp hn => ⟨(hs.2 p.1 hn).trans (S.N p hp).1, (S.N p hp).2⟩
  refine ⟨S.cx, S.ek, S.eg, S.eb, S.F.change hs z.2.1 z.2.2, fun p hp => ?_, ?_, fun p hp q hq => ?_, S.cs.put hx, S.lr, S.cl⟩
  · rcases List.mem_append.mp hp with h | h
    · exact keep p (List.mem_append.mpr (.inl h)) (ne p h)
    · rcases List.mem_append.mp h with h | h
      · obtain ⟨q, hq, e⟩ := List.mem_map.mp h
        split at e
        · subst e; exact ⟨ho, z.2⟩
        · rename_i hn; subst e; exact keep q (by simp [hq]) hn
      · exact keep p (by simp [h]) (nz p h)
  · have e : (ce.map fun p => if p.1 = a then (a, o') else p).map (·.1) = ce.map (·.1) := by
      rw [List.map_map]
      refine List.map_congr_left fun p _ => ?_
      simp only [Function.comp]
      split
      · rename_i h; exact h.symm
      · rfl
    rw [List.map_append, e, ← List.map_append]
    exact S.nd
  · rcases List.mem_append.mp hp with h | h
    · exact S.off p (List.mem_append.mpr (.inl h)) q hq
    · obtain ⟨r, hr, e⟩ := List.mem_map.mp h
      split at e
      · subst e; exact Ne.symm (nz q hq)
      · subst e; exact S.off r (by simp [hr]) q hq
/-- the newest cell stays as it is from here on -/
theorem St.freeze {a : Addr} {o : Obj} {x : Cel} (S : St g c ρ A h₀ s m oc ob ((a, o) :: ce) fz ((a, x) :: σ)) : St g c ρ A h₀ s m oc ob ce ((a, o) :: fz) σ ∧ CelRep fz o x := by
  have cs := S.cs
  cases cs with
  | cons hx hc =>
  have nd := S.nd
  simp only [List.map_append, List.map_cons] at nd
  have nd' := List.nodup_cons.mp ((List.perm_middle.nodup_iff).mp nd)
  have sb : Sub fz ((a, o) :: fz) := Sub.cons _ _
  refine ⟨⟨S.cx, S.ek, S.eg, S.eb, S.F, fun p hp => S.N p ?_, ?_, fun p hp q hq => ?_, hc.mono sb, S.lr.mono sb, S.cl⟩, hx⟩
  · simp only [List.mem_append, List.mem_cons] at hp ⊢
    rcases hp with (h | h) | h | h | h <;> simp [h]
  · simpa [List.map_append] using nd'.2
  · rcases List.mem_cons.mp hq with rfl | hq
    · exact fun (e : p.1 = a) => nd'.1 (by rw [← e]; have := List.mem_map_of_mem (f := (·.1)) hp; simpa [List.map_append] using this)
    · exact S.off p (by simp only [List.mem_append, List.mem_cons] at hp ⊢; rcases hp with (h | h) | h <;> simp [h]) q hq
/-- a new object, kept as it is -/
theorem St.addOb (S : St g c ρ A h₀ s m oc ob ce fz σ) (o : Obj) (hf : o.isFreed = false) (tk : Nat) : St g c ρ A h₀ { s with heap := s.heap.push o, toks := tk } m oc ((s.heap.objs.size, o) :: ob) ce fz σ := by
  have S' := S.keeps (h' := s.heap.push o) tk fun b o' e => Heap.get?_push_of_some _ e
  have N := S.N.push S.F o hf
  have new : ∀ p ∈ (oc ++ ob) ++ (ce ++ fz), p.1 ≠ s.heap.objs.size := fun p hp => Nat.ne_of_lt (Heap.lt_size (S.N p hp).1)
  refine ⟨S.cx, S.ek, S.eg, S.eb, S'.F, fun p hp => ?_, ?_, fun p hp q hq => ?_, S.cs, fun x X e => ?_, S.cl⟩
  · refine N p ?_
    simp only [List.mem_append, List.mem_cons] at hp ⊢
    rcases hp with (h | h | h) | h | h <;> simp [h]
  · have := S.nd
    simp only [List.map_append, List.map_cons, List.append_assoc, List.cons_append] at this ⊢
    refine (List.perm_middle.nodup_iff).mpr (List.nodup_cons.mpr ⟨fun hm => ?_, this⟩)
    have hm' : s.heap.objs.size ∈ (oc ++ ob ++ ce).map (·.1) := by simpa [List.map_append] using hm
    obtain ⟨p, hp, e⟩ := List.mem_map.mp hm'
    refine new p ?_ e
    simp only [List.mem_append] at hp ⊢
    rcases hp with (h | h) | h <;> simp [h]
  · simp only [List.mem_append, List.mem_cons] at hp
    rcases hp with (h | rfl | h) | h
    · exact S.off p (by simp [h]) q hq
    · exact Ne.symm (new q (by simp [hq]))
    · exact S.off p (by simp [h]) q hq
    · exact S.off p (by simp [h]) q hq
  · obtain ⟨v, rd, r⟩ := S.lr x X e
    refine ⟨v, ?_, r⟩
    cases rd with
    | loc a b d => exact .loc a b d
    | cel a b d e' => exact .cel a b d e'
    | cmp a b d e' => exact .cmp a (.tail _ b) d e'
/-- the newest kept object turned -/
theorem St.turn {I : Addr} {o o' : Obj} {h' : Heap} (S : St g c ρ A h₀ s m oc ((I, o) :: ob) ce fz σ) (hI : c.env.locals ≠ I) (tk : Nat) (ho : h'.get? I = some o') (hk : ∀ b o, b ≠ I → s.heap.get? b = some o → h'.get? b = some o) :
    St g c ρ A h₀ { s with heap := h', toks := tk } m oc ((I, o') :: ob) ce fz σ := by
  have z := S.N (I, o) (by simp)
  have nd := S.nd
  have ne : ∀ p ∈ oc ++ ob ++ ce, p.1 ≠ I := by
    simp only [List.map_append, List.map_cons, List.append_assoc, List.cons_append] at nd
    have nd' := List.nodup_cons.mp ((List.perm_middle.nodup_iff).mp nd)
    exact fun p hp e => nd'.1 (by rw [← e]; have := List.mem_map_of_mem (f := (·.1)) hp; simpa [List.map_append] using this)
  have keep : ∀ p ∈ (oc ++ ob) ++ (ce ++ fz), h'.get? p.1 = some p.2 ∧ p.1 ≠ c.fenv.locals ∧ h₀.get? p.1 = none := fun p hp => by
    have hm : p ∈ (oc ++ ((I, o) :: ob)) ++ (ce ++ fz) := by
      simp only [List.mem_append, List.mem_cons] at hp ⊢
      rcases hp with (h | h) | h | h <;> simp [h]
    refine ⟨hk _ _ ?_ (S.N p hm).1, (S.N p hm).2⟩
    simp only [List.mem_append] at hp
    rcases hp with (h | h) | h | h
    · exact ne p (by simp [h])
    · exact ne p (by simp [h])
    · exact ne p (by simp [h])
    · exact fun e => S.off (I, o) (by simp) p h e.symm
  obtain ⟨oL, es, ep, hL, r⟩ := S.F.ns
  have hIh : ∀ b o, h₀.get? b = some o → b ≠ I := fun b o e e' => by subst e'; rw [z.2.2] at e; cases e
  refine ⟨S.cx, S.ek, S.eg, S.eb, ⟨⟨oL, es, ep, hk _ _ (Ne.symm z.2.1) hL, r⟩, fun b o e => hk _ _ (hIh b o e) (S.F.keep b o e), S.F.above⟩, fun p hp => ?_, ?_, fun p hp q hq => ?_, S.cs, fun x X e => ?_, S.cl⟩
  · by_cases hpI : p = (I, o')
    · subst hpI; exact ⟨ho, z.2⟩
    · refine keep p ?_
      simp only [List.mem_append, List.mem_cons] at hp ⊢
      rcases hp with (h | h | h) | h | h <;> first | (exact absurd h hpI) | simp [h]
  · simpa [List.map_append] using nd
  · simp only [List.mem_append, List.mem_cons] at hp
    rcases hp with (h | rfl | h) | h
    · exact S.off p (by simp [h]) q hq
    · exact S.off (I, o) (by simp) q hq
    · exact S.off p (by simp [h]) q hq
    · exact S.off p (by simp [h]) q hq
  · obtain ⟨v, rd, r⟩ := S.lr x X e
    refine ⟨v, ?_, r⟩
    cases rd with
    | loc a b d => exact .loc a b d
    | cel a b d e' => exact .cel a b d e'
    | cmp a b d e' =>
      rcases List.mem_cons.mp b with h | h
      · exact absurd (congrArg Prod.fst h) hI
      · exact .cmp a (.tail _ h) d e'
/-- the newest kept object forgotten -/
theorem St.drop {I : Addr} {o : Obj} (S : St g c ρ A h₀ s m oc ((I, o) :: ob) ce fz σ) (hI : c.env.locals ≠ I) : St g c ρ A h₀ s m oc ob ce fz σ := by
  refine ⟨S.cx, S.ek, S.eg, S.eb, S.F, fun p hp => S.N p ?_, ?_, fun p hp q hq => S.off p ?_ q hq, S.cs, fun x X e => ?_, S.cl⟩
  · simp only [List.mem_append, List.mem_cons] at hp ⊢
    rcases hp with (h | h) | h | h <;> simp [h]
  · have nd := S.nd
    simp only [List.map_append, List.map_cons, List.append_assoc, List.cons_append] at nd ⊢
    exact (List.nodup_cons.mp ((List.perm_middle.nodup_iff).mp nd)).2
  · simp only [List.mem_append, List.mem_cons] at hp ⊢
    rcases hp with (h | h) | h <;> simp [h]
  · obtain ⟨v, rd, r⟩ := S.lr x X e
    refine ⟨v, ?_, r⟩
    cases rd with
    | loc a b d => exact .loc a b d
    | cel a b d e' => exact .cel a b d e'
    | cmp a b d e' =>
      rcases List.mem_cons.mp b with h | h
      · exact absurd (congrArg Prod.fst h) hI
      · exact .cmp a h d e'
/-- a kept object forgotten, whatever became of it -/
theorem St.forget {I : Addr} {o : Obj} {h' : Heap} (S : St g c ρ A h₀ s m oc ((I, o) :: ob) ce fz σ) (hI : c.env.locals ≠ I) (tk : Nat) (hk : ∀ b o, b ≠ I → s.heap.get? b = some o → h'.get? b = some o) :
    St g c ρ A h₀ { s with heap := h', toks := tk } m oc ob ce fz σ := by
  have z := S.N (I, o) (by simp)
  have S₃ := S.drop hI
  have ne : ∀ p ∈ (oc ++ ob) ++ (ce ++ fz), p.1 ≠ I := fun p hp e => by
    have nd := S.nd
    simp only [List.map_append, List.map_cons, List.append_assoc, List.cons_append] at nd
    have nd' := (List.nodup_cons.mp ((List.perm_middle.nodup_iff).mp nd)).1
    simp only [List.mem_append] at hp
    rcases hp with (h | h) | h | h
    · exact nd' (by rw [← e]; have := List.mem_map_of_mem (f := (·.1)) h; simp [this])
    · exact nd' (by rw [← e]; have := List.mem_map_of_mem (f := (·.1)) h; simp [this])
    · exact nd' (by rw [← e]; have := List.mem_map_of_mem (f := (·.1)) h; simp [this])
    · exact S.off (I, o) (by simp) p h e.symm
  obtain ⟨oL, es, ep, hL, r⟩ := S₃.F.ns
  exact ⟨S₃.cx, S₃.ek, S₃.eg, S₃.eb, ⟨⟨oL, es, ep, hk _ _ (Ne.symm z.2.1) hL, r⟩, fun b o' e => hk _ _ (fun e' => by subst e'; rw [z.2.2] at e; cases e) (S₃.F.keep b o' e), S₃.F.above⟩, fun p hp => ⟨hk _ _ (ne p hp) (S₃.N p hp).1, (S₃.N p hp).2⟩, S₃.nd, S₃.off, S₃.cs, S₃.lr, S₃.cl⟩
/-- the kept objects in another order -/
theorem St.perm {ob' : Led} (S : St g c ρ A h₀ s m oc ob ce fz σ) (hp : ob.Perm ob') : St g c ρ A h₀ s m oc ob' ce fz σ := by
  have mem : ∀ p, p ∈ ob' ↔ p ∈ ob := fun p => (hp.mem_iff (a := p)).symm
  refine ⟨S.cx, S.ek, S.eg, S.eb, S.F, fun p h => S.N p ?_, ?_, fun p h q hq => S.off p ?_ q hq, S.cs, fun x X e => ?_, S.cl⟩
  · simp only [List.mem_append, mem] at h ⊢
    exact h
  · refine (List.Perm.nodup_iff ?_).mp S.nd
    exact ((List.Perm.append_left _ hp).append_right _).map _
  · simp only [List.mem_append, mem] at h ⊢
    exact h
  · obtain ⟨v, rd, r⟩ := S.lr x X e
    refine ⟨v, ?_, r⟩
    cases rd with
    | loc a b d => exact .loc a b d
    | cel a b d e' => exact .cel a b d e'
    | cmp a b d e' => exact .cmp a ((mem _).mpr b) d e'
/-- a function's own frame holds none of the kept objects -/
theorem St.ownNe {I : Addr} {o : Obj} (S : St g c ρ A h₀ s m oc ((I, o) :: ob) ce fz σ) (he : c.env = c.fenv) : c.env.locals ≠ I := by
  rw [he]
  exact Ne.symm (S.N (I, o) (by simp)).2.1
end
-- W2
section
variable {g : G} {c : Cfg} {ρ : Env₁} {σ : Store}

/-! ## names and constants -/
theorem we_name {x : Str} {pos : Pos} {X : V} {Q : V → Store → Prop} (e : ρ.lookup x = some X) (h : Q X σ) (hd : (x == ("__debug__" : Str)) = false := by decide) : We g c ρ σ (.Name x pos) Q := by
  intro A h₀ s m oc ob ce fz vs S R P hP
  obtain ⟨v, rd, rp⟩ := S.lr x X e
  have fin : P v s := hP v X σ s.heap s.toks ce fz S (Sub.refl _) rp h
  refine wpAny_Name ?_ hd
  cases rd with
  | loc hl hk hm => exact wpAny_loadName_local S.ek hk (by rw [hl]; exact S.F.ns) hm fin
  | cel hk hc hm hd' => exact wpAny_loadName_cell S.ek hk hc ⟨_, (S.No _ (List.mem_append.mpr (.inl hm))).1, hd'⟩ fin
  | cmp hk hm hn hx => exact wpAny_loadName_local S.ek hk (hn.ns (S.No _ (List.mem_append.mpr (.inr hm))).1) hx fin

theorem we_glob {x : Str} {pos : Pos} {v : Value} {Q : V → Store → Prop} (e : nsIn (hd.heap_1 g.w.params) mainGlobals x = some (some v)) (h : Q (.raw v) σ) (hx : c.env.kindOf x = some .globalImplicit := by rfl)
    (hd : (x == ("__debug__" : Str)) = false := by decide) : We g c ρ σ (.Name x pos) Q := by
  intro A h₀ s m oc ob ce fz vs S R P hP
  exact nameG_K S.F S.cx.X S.TR e (hP v (.raw v) σ s.heap s.toks ce fz S (Sub.refl _) .raw h) S.eg S.ek hx hd

theorem we_bltn {x : Str} {pos : Pos} {v : Value} {Q : V → Store → Prop} (e : nsIn (hd.heap_1 g.w.params) mainGlobals x = some none) (hv : bootBuiltins x = some v) (h : Q (.raw v) σ) (hx : c.env.kindOf x = some .globalImplicit := by rfl)
    (hn : x ≠ "__name__" := by decide) (hd : (x == ("__debug__" : Str)) = false := by decide) : We g c ρ σ (.Name x pos) Q := by
  intro A h₀ s m oc ob ce fz vs S R P hP
  refine Name_function_global S.ek hx ?_ hd
  refine loadGlobal_builtin (mg := g.mg) (mb := g.mb) ?_ (mg_none_of S.cx.X S.TR.g e) ?_ ((S.TR.builtins x hn).trans hv) (hP v (.raw v) σ s.heap s.toks ce fz S (Sub.refl _) .raw h)
  · rw [S.eg]; exact S.TR.g.keeps S.F.keep
  · rw [S.eb]; exact S.TR.b.keeps S.F.keep

theorem we_int {i : Int} {k : Nat} {pos : Pos} {Q : V → Store → Prop} (h : Q (.int i) σ) : We g c ρ σ (.Constant (.int i) k pos) Q := by
  intro A h₀ s m oc ob ce fz vs S R P hP
  exact wpAny_Constant_int (hP _ (.int i) σ s.heap _ ce fz (S.toks _) (Sub.refl _) .int h)
theorem we_str {x : Str} {k : Nat} {pos : Pos} {Q : V → Store → Prop} (h : Q (.str x) σ) : We g c ρ σ (.Constant (.str x) k pos) Q := by
  intro A h₀ s m oc ob ce fz vs S R P hP
  exact Constant_str (hP _ (.str x) σ s.heap _ ce fz (S.toks _) (Sub.refl _) .str h)
theorem we_none {k : Nat} {pos : Pos} {Q : V → Store → Prop} (h : Q .none σ) : We g c ρ σ (.Constant .none k pos) Q := by
  intro A h₀ s m oc ob ce fz vs S R P hP
  exact wpAny_pure (hP _ .none σ s.heap s.toks ce fz S (Sub.refl _) .none h)
theorem we_bool {b : Bool} {k : Nat} {pos : Pos} {Q : V → Store → Prop} (h : Q (.bool b) σ) : We g c ρ σ (.Constant (.bool b) k pos) Q := by
  intro A h₀ s m oc ob ce fz vs S R P hP
  exact wpAny_pure (hP _ (.bool b) σ s.heap s.toks ce fz S (Sub.refl _) .bool h)

/-! ## two operands -/
def op2 {α : Type} (f : Value → Value → Sem α) : List Value → Sem α
  | [a, b] => f a b
  | _ => unsupported ""
def op1 {α : Type} (f : Value → Sem α) : List Value → Sem α
  | [a] => f a
  | _ => unsupported ""
def op3 {α : Type} (f : Value → Value → Value → Sem α) : List Value → Sem α
  | [a, b, d] => f a b d
  | _ => unsupported ""

theorem we_bin {l r : Expr} {op : Operator} {pos : Pos} {Q : V → Store → Prop} (h : We g c ρ σ l fun X σ₁ => We g c ρ σ₁ r fun Y σ₂ => Wp g c ρ σ₂ [X, Y] Rep (op2 (binaryOp op)) Q) : We g c ρ σ (.BinOp l op r pos) Q := by
  intro A h₀ s m oc ob ce fz vs S R P hP
  refine wpAny_BinOp ?_
  refine h A h₀ s m oc ob ce fz _ S .nil _ fun a X σ₁ h₁ tk₁ ce₁ fz₁ S₁ sb₁ ra hr => ?_
  refine hr A h₀ _ m oc ob ce₁ fz₁ _ S₁ .nil _ fun b Y σ₂ h₂ tk₂ ce₂ fz₂ S₂ sb₂ rb ho => ?_
  refine ho A h₀ _ m oc ob ce₂ fz₂ [a, b] S₂ (.cons (ra.mono sb₂) (.cons rb .nil)) _ fun v Z σ₃ h₃ tk₃ ce₃ fz₃ S₃ sb₃ rz hq => ?_
  exact hP v Z σ₃ h₃ tk₃ ce₃ fz₃ S₃ (sb₁.trans (sb₂.trans sb₃)) rz hq
theorem we_cmp {l r : Expr} {op : CmpOp} {pos : Pos} {Q : V → Store → Prop} (h : We g c ρ σ l fun X σ₁ => We g c ρ σ₁ r fun Y σ₂ => Wp g c ρ σ₂ [X, Y] Rep (op2 (compareOp op)) Q) (hm : behindInMarks op r = false := by rfl) : We g c ρ σ (.Compare l [op] [r] pos) Q := by
  intro A h₀ s m oc ob ce fz vs S R P hP
  refine wpAny_Compare1 ?_ hm
  refine h A h₀ s m oc ob ce fz _ S .nil _ fun a X σ₁ h₁ tk₁ ce₁ fz₁ S₁ sb₁ ra hr => ?_
  refine hr A h₀ _ m oc ob ce₁ fz₁ _ S₁ .nil _ fun b Y σ₂ h₂ tk₂ ce₂ fz₂ S₂ sb₂ rb ho => ?_
  refine ho A h₀ _ m oc ob ce₂ fz₂ [a, b] S₂ (.cons (ra.mono sb₂) (.cons rb .nil)) _ fun v Z σ₃ h₃ tk₃ ce₃ fz₃ S₃ sb₃ rz hq => ?_
  exact hP v Z σ₃ h₃ tk₃ ce₃ fz₃ S₃ (sb₁.trans (sb₂.trans sb₃)) rz hq
/-- a comparison as a test, its value a bool -/
theorem wt_cmp {l r : Expr} {op : CmpOp} {pos : Pos} {Q : Bool → Store → Prop} (h : We g c ρ σ l fun X σ₁ => We g c ρ σ₁ r fun Y σ₂ => Wp g c ρ σ₂ [X, Y] Rep (op2 (compareOp op)) fun Z σ₃ => ∃ b, Z = .bool b ∧ Q b σ₃) (hm : behindInMarks op r = false := by rfl) :
    Wt g c ρ σ (.Compare l [op] [r] pos) Q := by
  intro A h₀ s m oc ob ce fz vs S R P hP
  refine wpAny_isTrue_Compare1 ?_ hm
  refine h A h₀ s m oc ob ce fz _ S .nil _ fun a X σ₁ h₁ tk₁ ce₁ fz₁ S₁ sb₁ ra hr => ?_
  refine hr A h₀ _ m oc ob ce₁ fz₁ _ S₁ .nil _ fun b Y σ₂ h₂ tk₂ ce₂ fz₂ S₂ sb₂ rb ho => ?_
  refine ho A h₀ _ m oc ob ce₂ fz₂ [a, b] S₂ (.cons (ra.mono sb₂) (.cons rb .nil)) _ fun v Z σ₃ h₃ tk₃ ce₃ fz₃ S₃ sb₃ rz hq => ?_
  obtain ⟨b', rfl, hq⟩ := hq
  cases rz
  exact wpAny_truthy_bool (hP b' b' σ₃ h₃ tk₃ ce₃ fz₃ S₃ (sb₁.trans (sb₂.trans sb₃)) rfl hq)

theorem wp_pure2 {α β : Type} {X Y : V} {RR : Led → α → β → Prop} {f : Value → Value → Sem α} {Q : β → Store → Prop}
    (h : ∀ A h₀ s m oc ob ce fz a b, St g c ρ A h₀ s m oc ob ce fz σ → Rep fz a X → Rep fz b Y → ∀ P : α → Shared → Prop, (∀ r z h' tk' fz', St g c ρ A h₀ { s with heap := h', toks := tk' } m oc ob ce fz' σ → Sub fz fz' → RR fz' r z → Q z σ → P r { s with heap := h', toks := tk' }) → wpAny (model PG g.w) A (f a b) P (fun _ _ => False) s) :
    Wp g c ρ σ [X, Y] RR (op2 f) Q := by
  intro A h₀ s m oc ob ce fz vs S R P hP
  cases R with
  | cons ra R => cases R with
    | cons rb R => cases R with
      | nil => exact h A h₀ s m oc ob ce fz _ _ S ra rb P fun r z h' tk' fz' S' sb rr q => hP r z σ h' tk' ce fz' S' sb rr q
theorem add_ints {a b : Int} {Q : V → Store → Prop} (h : Q (.int (a + b)) σ) : Wp g c ρ σ [.int a, .int b] Rep (op2 (binaryOp .Add)) Q :=
  wp_pure2 fun A h₀ s m oc ob ce fz x y S rx ry P hP => by
    cases rx; cases ry
    exact add_int (hP _ (.int (a + b)) s.heap _ fz (S.toks _) (Sub.refl _) .int h)
theorem sub_ints {a b : Int} {Q : V → Store → Prop} (h : Q (.int (a - b)) σ) : Wp g c ρ σ [.int a, .int b] Rep (op2 (binaryOp .Sub)) Q :=
  wp_pure2 fun A h₀ s m oc ob ce fz x y S rx ry P hP => by
    cases rx; cases ry
    exact PyProof.Rows.sub_int (hP _ (.int (a - b)) s.heap _ fz (S.toks _) (Sub.refl _) .int h)
theorem mul_ints {a b : Int} {Q : V → Store → Prop} (hm : IntMulOk a b) (h : Q (.int (a * b)) σ) : Wp g c ρ σ [.int a, .int b] Rep (op2 (binaryOp .Mult)) Q :=
  wp_pure2 fun A h₀ s m oc ob ce fz x y S rx ry P hP => by
    cases rx; cases ry
    exact PyProof.Rows.mul_int (hP _ (.int (a * b)) s.heap _ fz (S.toks _) (Sub.refl _) .int h) hm
theorem div_ints {a b : Int} {Q : V → Store → Prop} (hb : b ≠ 0) (hp : Builtin.divisionGoesByPylong a b = false) (h : Q (.int (a.fdiv b)) σ) : Wp g c ρ σ [.int a, .int b] Rep (op2 (binaryOp .FloorDiv)) Q :=
  wp_pure2 fun A h₀ s m oc ob ce fz x y S rx ry P hP => by
    cases rx; cases ry
    exact floordiv_int hb (hP _ (.int (a.fdiv b)) s.heap _ fz (S.toks _) (Sub.refl _) .int h) (.inl hp)
theorem pow_ints {a n : Int} {Q : V → Store → Prop} (hn : 0 ≤ n) (hsz : (Builtin.Int.intBits a : Int) * n ≤ 2 ^ 27) (h : Q (.int (a ^ n.toNat)) σ) : Wp g c ρ σ [.int a, .int n] Rep (op2 (binaryOp .Pow)) Q :=
  wp_pure2 fun A h₀ s m oc ob ce fz x y S rx ry P hP => by
    cases rx; cases ry
    exact pow_int hn hsz (hP _ (.int (a ^ n.toNat)) s.heap _ fz (S.toks _) (Sub.refl _) .int h)
theorem add_strs {a b : Str} {Q : V → Store → Prop} (hs : a.length + b.length ≤ sizeLine) (h : Q (.str (a ++ b)) σ) : Wp g c ρ σ [.str a, .str b] Rep (op2 (binaryOp .Add)) Q :=
  wp_pure2 fun A h₀ s m oc ob ce fz x y S rx ry P hP => by
    cases rx; cases ry
    exact PyProof.Rows.add_str (fun t' tk => hP _ (.str (a ++ b)) s.heap _ fz (S.toks _) (Sub.refl _) .str h) hs
theorem eq_ints {a b : Int} {Q : V → Store → Prop} (h : Q (.bool (a == b)) σ) : Wp g c ρ σ [.int a, .int b] Rep (op2 (compareOp .Eq)) Q :=
  wp_pure2 fun A h₀ s m oc ob ce fz x y S rx ry P hP => by
    cases rx; cases ry
    exact PyProof.Rows.eq_int (hP _ (.bool (a == b)) s.heap _ fz S (Sub.refl _) .bool h)
theorem ne_ints {a b : Int} {Q : V → Store → Prop} (h : Q (.bool (a != b)) σ) : Wp g c ρ σ [.int a, .int b] Rep (op2 (compareOp .NotEq)) Q :=
  wp_pure2 fun A h₀ s m oc ob ce fz x y S rx ry P hP => by
    cases rx; cases ry
    exact PyProof.Rows.ne_int (hP _ (.bool (a != b)) s.heap _ fz S (Sub.refl _) .bool h)
theorem lt_ints {a b : Int} {Q : V → Store → Prop} (h : Q (.bool (decide (a < b))) σ) : Wp g c ρ σ [.int a, .int b] Rep (op2 (compareOp .Lt)) Q :=
  wp_pure2 fun A h₀ s m oc ob ce fz x y S rx ry P hP => by
    cases rx; cases ry
    exact PyProof.Rows.lt_int (hP _ (.bool (decide (a < b))) s.heap _ fz S (Sub.refl _) .bool h)
theorem le_ints {a b : Int} {Q : V → Store → Prop} (h : Q (.bool (decide (a ≤ b))) σ) : Wp g c ρ σ [.int a, .int b] Rep (op2 (compareOp .LtE)) Q :=
  wp_pure2 fun A h₀ s m oc ob ce fz x y S rx ry P hP => by
    cases rx; cases ry
    exact PyProof.Rows.le_int (hP _ (.bool (decide (a ≤ b))) s.heap _ fz S (Sub.refl _) .bool h)
theorem gt_ints {a b : Int} {Q : V → Store → Prop} (h : Q (.bool (decide (b < a))) σ) : Wp g c ρ σ [.int a, .int b] Rep (op2 (compareOp .Gt)) Q :=
  wp_pure2 fun A h₀ s m oc ob ce fz x y S rx ry P hP => by
    cases rx; cases ry
    exact PyProof.Rows.gt_int (hP _ (.bool (decide (b < a))) s.heap _ fz S (Sub.refl _) .bool h)
theorem eq_strs {a b : Str} {Q : V → Store → Prop} (h : Q (.bool (a == b)) σ) : Wp g c ρ σ [.str a, .str b] Rep (op2 (compareOp .Eq)) Q :=
  wp_pure2 fun A h₀ s m oc ob ce fz x y S rx ry P hP => by
    cases rx; cases ry
    exact PyProof.Rows.eq_str (hP _ (.bool (a == b)) s.heap _ fz S (Sub.refl _) .bool h)
theorem ne_strs {a b : Str} {Q : V → Store → Prop} (h : Q (.bool (a != b)) σ) : Wp g c ρ σ [.str a, .str b] Rep (op2 (compareOp .NotEq)) Q :=
  wp_pure2 fun A h₀ s m oc ob ce fz x y S rx ry P hP => by
    cases rx; cases ry
    exact PyProof.Rows.ne_str (hP _ (.bool (a != b)) s.heap _ fz S (Sub.refl _) .bool h)
end
-- W3
section
variable {g : G} {c : Cfg} {ρ : Env₁} {σ : Store}

/-! ## tests -/
theorem wt_not {x : Expr} {pos : Pos} {Q : Bool → Store → Prop} (h : Wt g c ρ σ x fun b σ' => Q (!b) σ') : Wt g c ρ σ (.UnaryOp .Not x pos) Q := by
  intro A h₀ s m oc ob ce fz vs S R P hP
  show wpAny _ _ (do return !(← isTrue x c.env (eval x c.env))) _ _ s
  refine wpAny_bind (h A h₀ s m oc ob ce fz _ S .nil _ fun a b σ₁ h₁ tk₁ ce₁ fz₁ S₁ sb₁ e q => ?_)
  cases e
  exact wpAny_pure (hP _ _ σ₁ h₁ tk₁ ce₁ fz₁ S₁ sb₁ rfl q)
abbrev Wall (g : G) (c : Cfg) (ρ : Env₁) (σ : Store) (op : BoolOp) (es : List Expr) (Q : Bool → Store → Prop) : Prop := Wp g c ρ σ [] EqB (fun _ => allTrue op es c.env) Q
theorem wt_boolop {op : BoolOp} {es : List Expr} {pos : Pos} {Q : Bool → Store → Prop} (h : Wall g c ρ σ op es Q) : Wt g c ρ σ (.BoolOp op es pos) Q := h
theorem wall_nil {op : BoolOp} {Q : Bool → Store → Prop} (h : Q (op == .And) σ) : Wall g c ρ σ op [] Q := by
  intro A h₀ s m oc ob ce fz vs S R P hP
  exact wpAny_pure (hP _ _ σ s.heap s.toks ce fz S (Sub.refl _) rfl h)
theorem wall_and {e : Expr} {es : List Expr} {Q : Bool → Store → Prop} (h : Wt g c ρ σ e fun b σ' => match b with | true => Wall g c ρ σ' .And es Q | false => Q false σ') : Wall g c ρ σ .And (e :: es) Q := by
  intro A h₀ s m oc ob ce fz vs S R P hP
  show wpAny _ _ (isTrue e c.env (eval e c.env) >>= fun b => _) _ _ s
  refine wpAny_bind (h A h₀ s m oc ob ce fz _ S .nil _ fun a b σ₁ h₁ tk₁ ce₁ fz₁ S₁ sb₁ e q => ?_)
  cases e
  cases a with
  | false => exact wpAny_pure (hP _ _ σ₁ h₁ tk₁ ce₁ fz₁ S₁ sb₁ rfl q)
  | true => exact q A h₀ _ m oc ob ce₁ fz₁ [] S₁ .nil _ fun a' b' σ₂ h₂ tk₂ ce₂ fz₂ S₂ sb₂ e' q' => hP a' b' σ₂ h₂ tk₂ ce₂ fz₂ S₂ (sb₁.trans sb₂) e' q'
theorem wall_or {e : Expr} {es : List Expr} {Q : Bool → Store → Prop} (h : Wt g c ρ σ e fun b σ' => match b with | true => Q true σ' | false => Wall g c ρ σ' .Or es Q) : Wall g c ρ σ .Or (e :: es) Q := by
  intro A h₀ s m oc ob ce fz vs S R P hP
  show wpAny _ _ (isTrue e c.env (eval e c.env) >>= fun b => _) _ _ s
  refine wpAny_bind (h A h₀ s m oc ob ce fz _ S .nil _ fun a b σ₁ h₁ tk₁ ce₁ fz₁ S₁ sb₁ e q => ?_)
  cases e
  cases a with
  | true => exact wpAny_pure (hP _ _ σ₁ h₁ tk₁ ce₁ fz₁ S₁ sb₁ rfl q)
  | false => exact q A h₀ _ m oc ob ce₁ fz₁ [] S₁ .nil _ fun a' b' σ₂ h₂ tk₂ ce₂ fz₂ S₂ sb₂ e' q' => hP a' b' σ₂ h₂ tk₂ ce₂ fz₂ S₂ (sb₁.trans sb₂) e' q'
/-- a value as a test -/
theorem wt_val {e : Expr} {Q : Bool → Store → Prop} (hp : isTrue e c.env (eval e c.env) = (do let v ← eval e c.env; standAt e.pos; holding [v] (truthy v)) := by rfl)
    (h : We g c ρ σ e fun X σ' => ∃ b, X = .bool b ∧ Q b σ') : Wt g c ρ σ e Q := by
  intro A h₀ s m oc ob ce fz vs S R P hP
  show wpAny _ _ (isTrue e c.env (eval e c.env)) _ _ s
  rw [hp]
  refine wpAny_bind (h A h₀ s m oc ob ce fz _ S .nil _ fun a X σ₁ h₁ tk₁ ce₁ fz₁ S₁ sb₁ ra q => ?_)
  obtain ⟨b, rfl, q⟩ := q
  cases ra
  exact wpAny_bind (wpAny_standAt (wpAny_holding (wpAny_truthy_bool (hP _ _ σ₁ h₁ tk₁ ce₁ fz₁ S₁ sb₁ rfl q))))
theorem we_ifexp {t b o : Expr} {pos : Pos} {Q : V → Store → Prop} (h : Wt g c ρ σ t fun v σ' => match v with | true => We g c ρ σ' b Q | false => We g c ρ σ' o Q) : We g c ρ σ (.IfExp t b o pos) Q := by
  intro A h₀ s m oc ob ce fz vs S R P hP
  show wpAny _ _ (isTrue t c.env (eval t c.env) >>= fun v => if v = true then eval b c.env else eval o c.env) _ _ s
  refine wpAny_bind (h A h₀ s m oc ob ce fz _ S .nil _ fun a v σ₁ h₁ tk₁ ce₁ fz₁ S₁ sb₁ e q => ?_)
  cases e
  cases a with
  | true => exact q A h₀ _ m oc ob ce₁ fz₁ [] S₁ .nil _ fun a' b' σ₂ h₂ tk₂ ce₂ fz₂ S₂ sb₂ e' q' => hP a' b' σ₂ h₂ tk₂ ce₂ fz₂ S₂ (sb₁.trans sb₂) e' q'
  | false => exact q A h₀ _ m oc ob ce₁ fz₁ [] S₁ .nil _ fun a' b' σ₂ h₂ tk₂ ce₂ fz₂ S₂ sb₂ e' q' => hP a' b' σ₂ h₂ tk₂ ce₂ fz₂ S₂ (sb₁.trans sb₂) e' q'
/-- «a and b» as a value, a a bool -/
theorem we_and2 {a b : Expr} {pos : Pos} {Q : V → Store → Prop} (h : We g c ρ σ a fun X σ' => ∃ v, X = .bool v ∧ match v with | true => We g c ρ σ' b Q | false => Q (.bool false) σ') : We g c ρ σ (.BoolOp .And [a, b] pos) Q := by
  intro A h₀ s m oc ob ce fz vs S R P hP
  show wpAny _ _ (eval a c.env >>= fun v => standAt pos >>= fun _ => holding [v] (truthy v) >>= fun t => _) _ _ s
  refine wpAny_bind (h A h₀ s m oc ob ce fz _ S .nil _ fun x X σ₁ h₁ tk₁ ce₁ fz₁ S₁ sb₁ ra q => ?_)
  obtain ⟨v, rfl, q⟩ := q
  cases ra
  refine wpAny_bind (wpAny_standAt (wpAny_bind (wpAny_holding (wpAny_truthy_bool ?_))))
  cases v with
  | false => exact wpAny_pure (hP _ _ σ₁ h₁ tk₁ ce₁ fz₁ S₁ sb₁ .bool q)
  | true => exact q A h₀ _ m oc ob ce₁ fz₁ [] S₁ .nil _ fun a' b' σ₂ h₂ tk₂ ce₂ fz₂ S₂ sb₂ e' q' => hP a' b' σ₂ h₂ tk₂ ce₂ fz₂ S₂ (sb₁.trans sb₂) e' q'

/-! ## displays -/
/-- several trees, one after the other -/
def Wl (g : G) (c : Cfg) (ρ : Env₁) (σ : Store) (ts : List (Bool × Sem Value)) (Q : List V → Store → Prop) : Prop := Wp g c ρ σ [] Reps (fun _ => spliced ts) Q
theorem wl_nil {Q : List V → Store → Prop} (h : Q [] σ) : Wl g c ρ σ [] Q := by
  intro A h₀ s m oc ob ce fz vs S R P hP
  exact spliced_nil (hP _ _ σ s.heap s.toks ce fz S (Sub.refl _) .nil h)
theorem wl_cons {e : Expr} {ts : List (Bool × Sem Value)} {Q : List V → Store → Prop} (h : We g c ρ σ e fun X σ₁ => Wl g c ρ σ₁ ts fun Xs σ₂ => Q (X :: Xs) σ₂) : Wl g c ρ σ ((false, eval e c.env) :: ts) Q := by
  intro A h₀ s m oc ob ce fz vs S R P hP
  refine spliced_cons (h A h₀ s m oc ob ce fz _ S .nil _ fun a X σ₁ h₁ tk₁ ce₁ fz₁ S₁ sb₁ ra hr => ?_)
  refine hr A h₀ _ m oc ob ce₁ fz₁ [] S₁ .nil _ fun as Xs σ₂ h₂ tk₂ ce₂ fz₂ S₂ sb₂ ras q => ?_
  exact hP _ _ σ₂ h₂ tk₂ ce₂ fz₂ S₂ (sb₁.trans sb₂) (.cons (ra.mono sb₂) ras) q
theorem we_tuple {es : List Expr} {k : Nat} {pos : Pos} {Q : V → Store → Prop} (h : Wl g c ρ σ (backTo pos (starEach es c.env)) fun Xs σ' => Xs.length ≤ 1000 ∧ Q (.tup Xs) σ') : We g c ρ σ (.Tuple es k pos) Q := by
  intro A h₀ s m oc ob ce fz vs S R P hP
  refine wpAny_Tuple (h A h₀ s m oc ob ce fz [] S .nil _ fun as Xs σ₁ h₁ tk₁ ce₁ fz₁ S₁ sb₁ ras q => ?_)
  refine ⟨by rw [ras.length]; exact Nat.le_trans q.1 (by decide), ?_⟩
  have S₂ := S₁.push { cls := .type "tuple", data := .seq as.toArray } rfl tk₁
  exact hP _ _ σ₁ _ tk₁ ce₁ _ S₂ (sb₁.trans (Sub.cons _ _)) (.tup (.head _) (ras.mono (Sub.cons _ _))) q.2
theorem we_list {es : List Expr} {pos : Pos} {Q : V → Store → Prop} (h : Wl g c ρ σ (backTo pos (starEach es c.env)) fun Xs σ' => Xs.length ≤ 1000 ∧ Q (.list Xs) σ') : We g c ρ σ (.List es pos) Q := by
  intro A h₀ s m oc ob ce fz vs S R P hP
  refine wpAny_List (h A h₀ s m oc ob ce fz [] S .nil _ fun as Xs σ₁ h₁ tk₁ ce₁ fz₁ S₁ sb₁ ras q => ?_)
  refine ⟨by rw [ras.length]; exact Nat.le_trans q.1 (by decide), ?_⟩
  have S₂ := S₁.push { cls := .type "list", data := .seq as.toArray } rfl tk₁
  exact hP _ _ σ₁ _ tk₁ ce₁ _ S₂ (sb₁.trans (Sub.cons _ _)) (.list (.head _) (ras.mono (Sub.cons _ _))) q.2
end
-- W4
section
variable {g : G} {c : Cfg} {ρ : Env₁} {σ : Store}

theorem wp_pure1 {α β : Type} {X : V} {RR : Led → α → β → Prop} {f : Value → Sem α} {Q : β → Store → Prop}
    (h : ∀ A h₀ s m oc ob ce fz a, St g c ρ A h₀ s m oc ob ce fz σ → Rep fz a X → ∀ P : α → Shared → Prop, (∀ r z h' tk' fz', St g c ρ A h₀ { s with heap := h', toks := tk' } m oc ob ce fz' σ → Sub fz fz' → RR fz' r z → Q z σ → P r { s with heap := h', toks := tk' }) → wpAny (model PG g.w) A (f a) P (fun _ _ => False) s) :
    Wp g c ρ σ [X] RR (op1 f) Q := by
  intro A h₀ s m oc ob ce fz vs S R P hP
  cases R with
  | cons ra R => cases R with
    | nil => exact h A h₀ s m oc ob ce fz _ S ra P fun r z h' tk' fz' S' sb rr q => hP r z σ h' tk' ce fz' S' sb rr q

/-! ## attributes -/
theorem Flds.get {fz : Led} {name : Str} {Y : V} : ∀ {es : List DictEntry} {fs : List (Str × V)}, Flds fz es fs → fs.lookup name = some Y → ∃ v, getL name es = some (some v) ∧ Rep fz v Y
  | _, _, .nil, e => by simp at e
  | _, _, .cons (x := x) (v := v) (es := es) hr hk, e => by
    rw [List.lookup_cons] at e
    by_cases hx : name = x
    · subst hx
      rw [beq_self_eq_true] at e
      cases e
      refine ⟨v, ?_, hr⟩
      unfold getL
      rw [List.find?_cons]
      simp [Value.isStr]
    · rw [beq_eq_false_iff_ne.mpr hx] at e
      obtain ⟨v', h1, h2⟩ := Flds.get hk e
      refine ⟨v', ?_, h2⟩
      have hx' : (x == name) = false := beq_eq_false_iff_ne.mpr (Ne.symm hx)
      unfold getL at h1 ⊢
      rw [List.find?_cons]
      simp only [Value.isStr, hx', List.any_cons, DictEntry.refKey, Bool.false_or]
      exact h1
theorem Flds.miss {fz : Led} {name : Str} : ∀ {es : List DictEntry} {fs : List (Str × V)}, Flds fz es fs → fs.lookup name = none → getL name es = some none
  | _, _, .nil, _ => rfl
  | _, _, .cons (x := x) (v := v) (es := es) hr hk, e => by
    rw [List.lookup_cons] at e
    by_cases hx : name = x
    · subst hx
      rw [beq_self_eq_true] at e
      cases e
    · rw [beq_eq_false_iff_ne.mpr hx] at e
      have h1 := Flds.miss hk e
      have hx' : (x == name) = false := beq_eq_false_iff_ne.mpr (Ne.symm hx)
      unfold getL at h1 ⊢
      rw [List.find?_cons]
      simp only [Value.isStr, hx', List.any_cons, DictEntry.refKey, Bool.false_or]
      exact h1

def V.plain : V → Bool
  | .raw _ => false
  | _ => true
theorem Rep.handed {fz : Led} {v : Value} {X : V} (h : Rep fz v X) (hp : X.plain = true) : handedIn v = true := by
  cases h <;> first | rfl | cases hp

/-- a value's attribute, the value by a name -/
theorem we_attr {x attr : Str} {xp pos : Pos} {Q : V → Store → Prop} (h : We g c ρ σ (.Name x xp) fun X σ₁ => Wp g c ρ σ₁ [X] Rep (op1 fun v => getAttr v attr true) Q) : We g c ρ σ (.Attribute (.Name x xp) attr pos) Q := by
  intro A h₀ s m oc ob ce fz vs S R P hP
  refine Attribute_name (h A h₀ s m oc ob ce fz _ S .nil _ fun a X σ₁ h₁ tk₁ ce₁ fz₁ S₁ sb₁ ra hr => ?_)
  exact hr A h₀ _ m oc ob ce₁ fz₁ [a] S₁ (.cons ra .nil) _ fun v Y σ₂ h₂ tk₂ ce₂ fz₂ S₂ sb₂ rv q => hP v Y σ₂ h₂ tk₂ ce₂ fz₂ S₂ (sb₁.trans sb₂) rv q
theorem ga_own {C : Addr} {fs : List (Str × V)} {attr : Str} {Y : V} {ex : Bool} {o : Option Value} {Q : V → Store → Prop} (hl : fs.lookup attr = some Y) (hy : Y.plain = true) (hg : plainGet (hd.heap_1 g.w.params) C attr = true) (hh : hasDictIn (hd.heap_1 g.w.params) C = true)
    (ha : findIn (hd.heap_1 g.w.params) (.ref C) attr = some o) (hn : noGet (hd.heap_1 g.w.params) o = true) (h : Q Y σ) : Wp g c ρ σ [.inst C fs] Rep (op1 fun v => getAttr v attr ex) Q :=
  wp_pure1 fun A h₀ s m oc ob ce fz a S ra P hP => by
    cases ra with
    | inst h1 h2 hf =>
      obtain ⟨v, e, rv⟩ := hf.get hl
      exact get_own S.F S.cx.X (InstAt.of_news S.Nz h1 h2) hg hh ha hn e (rv.handed hy) (hP v Y s.heap _ fz (S.toks _) (Sub.refl _) rv h)
theorem ga_cls {C : Addr} {fs : List (Str × V)} {attr : Str} {x : Str} {t : Tok} {ex : Bool} {Q : V → Store → Prop} (hl : fs.lookup attr = none) (hg : plainGet (hd.heap_1 g.w.params) C attr = true) (hh : hasDictIn (hd.heap_1 g.w.params) C = true)
    (ha : findIn (hd.heap_1 g.w.params) (.ref C) attr = some (some (.str x t))) (hn : specialIn (hd.heap_1 g.w.params) (.str x t) "__get__" = some none) (hc : copiedNames.contains attr = false) (h : Q (.str x) σ) : Wp g c ρ σ [.inst C fs] Rep (op1 fun v => getAttr v attr ex) Q :=
  wp_pure1 fun A h₀ s m oc ob ce fz a S ra P hP => by
    cases ra with
    | inst h1 h2 hf =>
      exact get_cls S.F S.cx.X (InstAt.of_news S.Nz h1 h2) hg hh ha hn rfl hc (hf.miss hl) (hP _ (.str x) s.heap _ fz (S.toks _) (Sub.refl _) .str h)

/-! ## calls -/
theorem evalArgs_nil' {M : Model} {A : Around} {E : Value → Shared → Prop} {s : Shared} {f : Value} {Q : Args → Shared → Prop}
    (h : wpAny M A (spliced []) (fun vs s' => Q ⟨vs, []⟩ s') E s) : wpAny M A (evalArgs f true [] []) Q E s := by
  unfold evalArgs
  show wpAny M A (spliced [] >>= _) Q E s
  refine wpAny_bind (wpAny_mono h (fun vs s' h' => ?_) fun _ _ x => x)
  refine wpAny_holding ?_
  exact wpAny_bind (wpAny_pure (wpAny_bind (wpAny_pure (wpAny_pure h'))))
/-- the arguments bear no star -/
def NoStar (ts : List (Bool × Sem Value)) : Prop := match ts with
  | [] => True
  | (b, _) :: r => b = false ∧ r.any (·.1) = false
theorem evalArgs_no {M : Model} {A : Around} {E : Value → Shared → Prop} {s : Shared} {f : Value} {Q : Args → Shared → Prop} : ∀ {ts : List (Bool × Sem Value)}, NoStar ts →
    wpAny M A (spliced ts) (fun vs s' => Q ⟨vs, []⟩ s') E s → wpAny M A (evalArgs f true ts []) Q E s
  | [], _, h => evalArgs_nil' h
  | (b, x) :: r, ⟨hb, _⟩, h => by subst hb; exact evalArgs_plain h
theorem NoStar.any : ∀ {ts : List (Bool × Sem Value)}, NoStar ts → ts.any (·.1) = false
  | [], _ => rfl
  | (b, x) :: r, ⟨hb, hr⟩ => by subst hb; simpa using hr
/-- what stands between the callee and its call -/
theorem w_args {ts : List (Bool × Sem Value)} {f : Value} {first : List Value} {pos : Pos} {P : Value → Shared → Prop} {A : Around} {h₀ : Heap} {s : Shared} {m : Str → Option Value} {oc ob ce fz : Led} {Xs₀ : List V} {Q : V → Store → Prop}
    (S : St g c ρ A h₀ s m oc ob ce fz σ) (hp : NoStar ts)
    (hk : ∀ h, (hd.heap_1 g.w.params).In h → ∃ k, (k = Keeper.frame ∨ k = Keeper.machine ∨ k = Keeper.boundFrame) ∧ Looks (model PG g.w) h (keeperOf f) k)
    (rf : Reps fz first Xs₀)
    (h : Wl g c ρ σ ts fun Xs σ' => Wp g c ρ σ' (Xs₀ ++ Xs) Rep (fun vs => call f vs) Q)
    (hP : ∀ a b σ' h' tk' ce' fz', St g c ρ A h₀ { s with heap := h', toks := tk' } m oc ob ce' fz' σ' → Sub fz fz' → Rep fz' a b → Q b σ' → P a { s with heap := h', toks := tk' }) :
    wpAny (model PG g.w) A (callWith pos f first ts []) P (fun _ _ => False) s := by
  refine callWith_of (P := fun h => (hd.heap_1 g.w.params).In h) (by rw [hp.any]; rfl) hk (evalArgs_no hp ?_)
  refine h A h₀ s m oc ob ce fz [] S .nil _ fun vs Xs σ₁ h₁ tk₁ ce₁ fz₁ S₁ sb₁ rv q => ⟨S₁.KX, ?_⟩
  exact q A h₀ _ m oc ob ce₁ fz₁ (first ++ vs) S₁ ((rf.mono sb₁).append rv) _ fun a b σ₂ h₂ tk₂ ce₂ fz₂ S₂ sb₂ r q' => hP a b σ₂ h₂ tk₂ ce₂ fz₂ S₂ (sb₁.trans sb₂) r q'
theorem keeps_B {id : String} (h : Heap) : ∃ k, (k = Keeper.frame ∨ k = Keeper.machine ∨ k = Keeper.boundFrame) ∧ Looks (model PG g.w) h (keeperOf (.builtin id)) k :=
  ⟨.machine, .inr (.inl rfl), Looks.of_pure rfl⟩

/-- a call of the text's own def or class by its name -/
theorem we_callK {x : Str} {p pos : Pos} {es : List Expr} {f : Addr} {Q : V → Store → Prop} (e : nsIn (hd.heap_1 g.w.params) mainGlobals x = some (some (.ref f))) (hk : keepIn (hd.heap_1 g.w.params) (.ref f) = true)
    (h : Wl g c ρ σ (backTo pos (starEach es c.env)) fun Xs σ' => Wp g c ρ σ' Xs Rep (fun vs => call (.ref f) vs) Q)
    (hx : c.env.kindOf x = some .globalImplicit := by rfl) (hs : NoStar (backTo pos (starEach es c.env)) := by first | exact ⟨rfl, rfl⟩ | exact trivial) (hd' : (x == ("__debug__" : Str)) = false := by decide) : We g c ρ σ (.Call (.Name x p) es [] pos) Q := by
  intro A h₀ s m oc ob ce fz vs S R P hP
  show wpAny _ _ (eval (.Name x p) c.env >>= fun f => callWith pos f [] (backTo pos (starEach es c.env)) []) _ _ s
  refine wpAny_bind (nameG_K S.F S.cx.X S.TR e ?_ S.eg S.ek hx hd')
  exact w_args S hs (fun h X => keeps_K hk h X) .nil h hP
/-- a call of a built-in by its name -/
theorem we_callB {x : Str} {p pos : Pos} {es : List Expr} {id : String} {Q : V → Store → Prop} (e : nsIn (hd.heap_1 g.w.params) mainGlobals x = some none) (hv : bootBuiltins x = some (.builtin id))
    (h : Wl g c ρ σ (backTo pos (starEach es c.env)) fun Xs σ' => Wp g c ρ σ' Xs Rep (fun vs => call (.builtin id) vs) Q)
    (hx : c.env.kindOf x = some .globalImplicit := by rfl) (hs : NoStar (backTo pos (starEach es c.env)) := by first | exact ⟨rfl, rfl⟩ | exact trivial) (hn : x ≠ "__name__" := by decide) (hd' : (x == ("__debug__" : Str)) = false := by decide) : We g c ρ σ (.Call (.Name x p) es [] pos) Q := by
  intro A h₀ s m oc ob ce fz vs S R P hP
  show wpAny _ _ (eval (.Name x p) c.env >>= fun f => callWith pos f [] (backTo pos (starEach es c.env)) []) _ _ s
  refine wpAny_bind (we_bltn e hv (Q := fun X σ' => X = .raw (.builtin id) ∧ σ' = σ) ⟨rfl, rfl⟩ hx hn hd' A h₀ s m oc ob ce fz [] S .nil (fun f s₁ => wpAny (model PG g.w) A (callWith pos f [] (backTo pos (starEach es c.env)) []) P (fun _ _ => False) s₁) fun a X σ₁ h₁ tk₁ ce₁ fz₁ S₁ sb₁ ra q => ?_)
  obtain ⟨rfl, rfl⟩ := q
  cases ra
  exact w_args S₁ hs (fun h _ => keeps_B h) .nil h fun a b σ' h' tk' ce' fz' S' sb r q => hP a b σ' h' tk' ce' fz' S' (sb₁.trans sb) r q
/-- the type names called: list, dict, tuple, .. -/
theorem we_callT {x : Str} {p pos : Pos} {ex : Expr} {T : String} {Q : V → Store → Prop} (e : nsIn (hd.heap_1 g.w.params) mainGlobals x = some none) (hv : bootBuiltins x = some (.type T))
    (h : We g c ρ σ ex fun X σ' => Wp g c ρ σ' [X] Rep (fun vs => call (.type T) vs) Q)
    (hst : starEach [ex] c.env = [(false, eval ex c.env)] := by rfl)
    (hx : c.env.kindOf x = some .globalImplicit := by rfl) (hn : x ≠ "__name__" := by decide) (hd' : (x == ("__debug__" : Str)) = false := by decide) : We g c ρ σ (.Call (.Name x p) [ex] [] pos) Q := by
  intro A h₀ s m oc ob ce fz vs S R P hP
  show wpAny _ _ (eval (.Name x p) c.env >>= fun f => callWith pos f [] (backTo pos (starEach [ex] c.env)) []) _ _ s
  refine wpAny_bind (we_bltn e hv (Q := fun X σ' => X = .raw (.type T) ∧ σ' = σ) ⟨rfl, rfl⟩ hx hn hd' A h₀ s m oc ob ce fz [] S .nil (fun f s₁ => wpAny (model PG g.w) A (callWith pos f [] (backTo pos (starEach [ex] c.env)) []) P (fun _ _ => False) s₁) fun a X σ₁ h₁ tk₁ ce₁ fz₁ S₁ sb₁ ra q => ?_)
  obtain ⟨rfl, rfl⟩ := q
  cases ra
  refine callWith_type1 (he := hst) ?_
  rw [hst]
  refine spliced_cons (h A h₀ _ m oc ob ce₁ fz₁ [] S₁ .nil _ fun a X σ₂ h₂ tk₂ ce₂ fz₂ S₂ sb₂ ra hr => ?_)
  refine spliced_nil ?_
  exact hr A h₀ _ m oc ob ce₂ fz₂ [a] S₂ (.cons ra .nil) _ fun a b σ' h' tk' ce' fz' S' sb r q => hP a b σ' h' tk' ce' fz' S' (sb₁.trans (sb₂.trans sb)) r q

/-- a method's call: the base, the method, the arguments -/
theorem we_meth {o : Expr} {name : Str} {apos pos : Pos} {es : List Expr} {pl : Sem Bool} {Q : V → Store → Prop}
    (h : We g c ρ σ o fun X σ₁ => ∃ (f : Value) (Xs₀ : List V), (∀ A h₀ s m oc ob ce fz v, St g c ρ A h₀ s m oc ob ce fz σ₁ → Rep fz v X → ∀ P : Value × List Value → Shared → Prop, (∀ first h' tk', St g c ρ A h₀ { s with heap := h', toks := tk' } m oc ob ce fz σ₁ → Reps fz first Xs₀ → P (f, first) { s with heap := h', toks := tk' }) → wpAny (model PG g.w) A (getMethod v name pl) P (fun _ _ => False) s) ∧
      (∀ h, (hd.heap_1 g.w.params).In h → ∃ k, (k = Keeper.frame ∨ k = Keeper.machine ∨ k = Keeper.boundFrame) ∧ Looks (model PG g.w) h (keeperOf f) k) ∧
      Wl g c ρ σ₁ (backTo pos (starEach es c.env)) fun Xs σ' => Wp g c ρ σ' (Xs₀ ++ Xs) Rep (fun vs => call f vs) Q)
    (hs : NoStar (backTo pos (starEach es c.env)) := by first | exact ⟨rfl, rfl⟩ | exact trivial)
    (he : eval (.Call (.Attribute o name apos) es [] pos) c.env = (do
      let ov ← eval o c.env
      standAt apos.atName
      let (f, first) ← holding [ov] (getMethod ov name pl)
      callWith pos f first (backTo pos (starEach es c.env)) []) := by rfl) :
    We g c ρ σ (.Call (.Attribute o name apos) es [] pos) Q := by
  intro A h₀ s m oc ob ce fz vs S R P hP
  refine MethodCall_ (pl := pl) ?_ he
  refine h A h₀ s m oc ob ce fz [] S .nil _ fun a X σ₁ h₁ tk₁ ce₁ fz₁ S₁ sb₁ ra hq => ?_
  obtain ⟨f, Xs₀, hm, hk, hw⟩ := hq
  refine hm A h₀ _ m oc ob ce₁ fz₁ a S₁ ra _ fun first h₂ tk₂ S₂ rf => ?_
  exact w_args S₂ hs hk rf hw fun a b σ' h' tk' ce' fz' S' sb r q => hP a b σ' h' tk' ce' fz' S' (sb₁.trans sb) r q
end
-- W5
section
variable {g : G} {c : Cfg} {ρ : Env₁} {σ : Store}

/-! ## statements -/
theorem wss_nil {Q : Fl → Env₁ → Store → Prop} (h : Q .next ρ σ) : Wss g c ρ σ [] Q := by
  intro A h₀ s m oc ob ce fz S P hP
  exact wpAny_execs_nil (hP _ _ ρ σ s.heap s.toks m oc ce fz S (Sub.refl _) .next h)
theorem wss_cons {st : Stmt} {rest : List Stmt} {Q : Fl → Env₁ → Store → Prop} (h : Wx g c ρ σ st fun f ρ' σ' => match f with | .next => Wss g c ρ' σ' rest Q | f => Q f ρ' σ') : Wss g c ρ σ (st :: rest) Q := by
  intro A h₀ s m oc ob ce fz S P hP
  refine wpAny_execs_cons (h A h₀ s m oc ob ce fz S _ fun f fl ρ' σ' h' tk' m' oc' ce' fz' S' sb rf q => ?_)
  cases rf with
  | next => exact q A h₀ _ m' oc' ob ce' fz' S' P fun f fl ρ₂ σ₂ h₂ tk₂ m₂ oc₂ ce₂ fz₂ S₂ sb₂ rf₂ q₂ => hP f fl ρ₂ σ₂ h₂ tk₂ m₂ oc₂ ce₂ fz₂ S₂ (sb.trans sb₂) rf₂ q₂
  | brk => exact hP _ _ ρ' σ' h' tk' m' oc' ce' fz' S' sb .brk q
  | cont => exact hP _ _ ρ' σ' h' tk' m' oc' ce' fz' S' sb .cont q
  | ret r => exact hP _ _ ρ' σ' h' tk' m' oc' ce' fz' S' sb (.ret r) q
theorem wx_if {t : Expr} {b o : List Stmt} {pos : Pos} {Q : Fl → Env₁ → Store → Prop} (h : Wt g c ρ σ t fun v σ' => match v with | true => Wss g c ρ σ' b Q | false => Wss g c ρ σ' o Q) : Wx g c ρ σ (.If t b o pos) Q := by
  intro A h₀ s m oc ob ce fz S P hP
  refine wpAny_If (h A h₀ s m oc ob ce fz [] S .nil _ fun a v σ₁ h₁ tk₁ ce₁ fz₁ S₁ sb₁ e q => ?_)
  cases e
  cases a with
  | true => simp only [if_true]; exact q A h₀ _ m oc ob ce₁ fz₁ S₁ P fun f fl ρ₂ σ₂ h₂ tk₂ m₂ oc₂ ce₂ fz₂ S₂ sb₂ rf₂ q₂ => hP f fl ρ₂ σ₂ h₂ tk₂ m₂ oc₂ ce₂ fz₂ S₂ (sb₁.trans sb₂) rf₂ q₂
  | false => simp only [Bool.false_eq_true, if_false]; exact q A h₀ _ m oc ob ce₁ fz₁ S₁ P fun f fl ρ₂ σ₂ h₂ tk₂ m₂ oc₂ ce₂ fz₂ S₂ sb₂ rf₂ q₂ => hP f fl ρ₂ σ₂ h₂ tk₂ m₂ oc₂ ce₂ fz₂ S₂ (sb₁.trans sb₂) rf₂ q₂
theorem wx_return {e : Expr} {pos : Pos} {Q : Fl → Env₁ → Store → Prop} (h : We g c ρ σ e fun X σ' => Q (.ret X) ρ σ') : Wx g c ρ σ (.Return (some e) pos) Q := by
  intro A h₀ s m oc ob ce fz S P hP
  exact wpAny_Return_some (h A h₀ s m oc ob ce fz [] S .nil _ fun a X σ₁ h₁ tk₁ ce₁ fz₁ S₁ sb₁ r q => hP _ _ ρ σ₁ h₁ tk₁ m oc ce₁ fz₁ S₁ sb₁ (.ret r) q)

/-! ## a name stored -/
def setA (l : Led) (a : Addr) (o : Obj) : Led := l.map fun p => if p.1 = a then (a, o) else p
theorem setA_addr (l : Led) (a : Addr) (o : Obj) : (setA l a o).map (·.1) = l.map (·.1) := by
  unfold setA
  rw [List.map_map]
  refine List.map_congr_left fun p _ => ?_
  simp only [Function.comp]
  split
  · rename_i h; exact h.symm
  · rfl
theorem mem_setA {l : Led} {a : Addr} {o : Obj} {p : Addr × Obj} (h : p ∈ setA l a o) : (p = (a, o)) ∨ (p ∈ l ∧ p.1 ≠ a) := by
  obtain ⟨q, hq, e⟩ := List.mem_map.mp h
  split at e
  · exact .inl e.symm
  · rename_i hn; subst e; exact .inr ⟨hq, hn⟩
theorem setA_of {l : Led} {a : Addr} {o : Obj} {p : Addr × Obj} (h : p ∈ l) (hn : p.1 ≠ a) : p ∈ setA l a o := List.mem_map.mpr ⟨p, h, if_neg hn⟩
theorem setA_self {l : Led} {a : Addr} {o o' : Obj} (h : (a, o') ∈ l) : (a, o) ∈ setA l a o := List.mem_map.mpr ⟨(a, o'), h, if_pos rfl⟩
theorem setA_append (l k : Led) (a : Addr) (o : Obj) : setA (l ++ k) a o = setA l a o ++ setA k a o := List.map_append
theorem setA_same {l : Led} {a : Addr} {o : Obj} (h : ∀ p ∈ l, p.1 ≠ a) : setA l a o = l := by
  unfold setA
  conv => rhs; rw [← List.map_id l]
  exact List.map_congr_left fun p hp => if_neg (h p hp)

theorem lookup_cons_str {x y : Str} {X : V} {ρ : Env₁} : List.lookup y ((x, X) :: ρ) = if y = x then some X else ρ.lookup y := by
  rw [List.lookup_cons]
  by_cases h : y = x
  · simp [h]
  · rw [beq_eq_false_iff_ne.mpr h, if_neg h]

/-- where the names of this frame may be stored -/
def Keeps' (c : Cfg) (x : Str) : Prop := c.env.kindOf x = some .local ∨ (c.env.kindOf x = some .cell ∧ (c.env.cells.lookup x).isSome = true ∧ (c.env.cells.map (·.2)).Nodup)

theorem nodup_lookup {cells : List (Str × Addr)} (hn : (cells.map (·.2)).Nodup) : ∀ {x y : Str} {a : Addr}, cells.lookup x = some a → cells.lookup y = some a → x = y := by
  induction cells with
  | nil => intro x y a h; simp at h
  | cons q r ih =>
    obtain ⟨z, b⟩ := q
    rw [List.map_cons, List.nodup_cons] at hn
    intro x y a h k
    have up : ∀ {u : Str}, r.lookup u = some a → a ∈ r.map (·.2) := fun {u} e => by
      clear ih hn h k
      induction r with
      | nil => simp at e
      | cons w r ih =>
        obtain ⟨v, d⟩ := w
        rw [List.lookup_cons] at e
        split at e
        · cases e; exact List.mem_map.mpr ⟨_, .head _, rfl⟩
        · exact List.mem_cons_of_mem _ (ih e)
    rw [List.lookup_cons] at h k
    split at h
    · rename_i hx
      cases h
      split at k
      · rename_i hy; rw [beq_iff_eq.mp hx, beq_iff_eq.mp hy]
      · exact absurd (up k) hn.1
    · split at k
      · cases k; exact absurd (up h) hn.1
      · exact ih hn.2 h k

theorem st_store {x : Str} {v : Value} {X : V} {A : Around} {h₀ : Heap} {s : Shared} {m : Str → Option Value} {oc ob ce fz : Led} {P : Unit → Shared → Prop} (S : St g c ρ A h₀ s m oc ob ce fz σ) (he : c.env = c.fenv) (hk : Keeps' c x) (rv : Rep fz v X)
    (h : ∀ h' tk' m' oc', St g c ((x, X) :: ρ) A h₀ { s with heap := h', toks := tk' } m' oc' ob ce fz σ → P () { s with heap := h', toks := tk' }) : wpAny (model PG g.w) A (storeName c.env x v) P (fun _ _ => False) s := by
  rcases hk with hk | ⟨hk, hc, hnd⟩
  · refine wpAny_storeName_local hk (by rw [he]; exact S.F.ns) (fun h' hn hs => h h' _ (fun y => if y = x then some v else m y) oc ?_) (by rw [S.ek]; rfl)
    rw [he] at hn hs
    have F' := S.F.set hn hs
    refine ⟨S.cx, S.ek, S.eg, S.eb, F', S.N.set hs, S.nd, S.off, S.cs, fun y Y e => ?_, S.cl⟩
    rw [lookup_cons_str] at e
    by_cases hy : y = x
    · rw [if_pos hy] at e
      cases e
      exact ⟨v, .loc (by rw [he]) (by rw [hy]; exact hk) (by simp [hy]), rv⟩
    · rw [if_neg hy] at e
      obtain ⟨u, rd, ru⟩ := S.lr y Y e
      refine ⟨u, ?_, ru⟩
      cases rd with
      | loc a b d => exact .loc a b (by simp only [if_neg hy]; exact d)
      | cel a b d e' => exact .cel a b d e'
      | cmp a b d e' => exact .cmp a b d e'
  · obtain ⟨a, ha⟩ := Option.isSome_iff_exists.mp hc
    obtain ⟨o, v₀, hm, hd'⟩ := S.cl he x a ha
    have hmo : (a, o) ∈ oc ++ ob := List.mem_append.mpr (.inl hm)
    have ho := (S.No _ hmo)
    refine wpAny_storeName_cell S.ek hk ha ⟨o, ho.1, hd'⟩ fun h' hcell hs => ?_
    obtain ⟨o', ho', hd''⟩ := hcell
    have hnd' := S.nd
    rw [List.append_assoc, List.map_append, List.nodup_append] at hnd'
    have ob_ne : ∀ p ∈ ob ++ ce, p.1 ≠ a := fun p hp e => hnd'.2.2 a (List.mem_map.mpr ⟨(a, o), hm, rfl⟩) p.1 (List.mem_map_of_mem hp) e.symm
    have fz_ne : ∀ p ∈ fz, p.1 ≠ a := fun p hp e => S.off (a, o) (List.mem_append.mpr (.inl hmo)) p hp e.symm
    have F' : Fr h₀ c.fenv.locals h' m := S.F.change hs ho.2.1 ho.2.2
    have N' : News h₀ c.fenv.locals h' ((setA oc a o' ++ ob) ++ (ce ++ fz)) := by
      intro p hp
      have keep : ∀ q ∈ ((oc ++ ob) ++ (ce ++ fz)), q.1 ≠ a → h'.get? q.1 = some q.2 ∧ q.1 ≠ c.fenv.locals ∧ h₀.get? q.1 = none := fun q hq hn => ⟨(hs.2 q.1 hn).trans (S.N q hq).1, (S.N q hq).2⟩
      rcases List.mem_append.mp hp with h1 | h1
      · rcases List.mem_append.mp h1 with h2 | h2
        · rcases mem_setA h2 with rfl | ⟨h3, h4⟩
          · exact ⟨ho', ho.2⟩
          · exact keep p (List.mem_append.mpr (.inl (List.mem_append.mpr (.inl h3)))) h4
        · exact keep p (List.mem_append.mpr (.inl (List.mem_append.mpr (.inr h2)))) (ob_ne p (List.mem_append.mpr (.inl h2)))
      · rcases List.mem_append.mp h1 with h2 | h2
        · exact keep p (List.mem_append.mpr (.inr h1)) (ob_ne p (List.mem_append.mpr (.inr h2)))
        · exact keep p (List.mem_append.mpr (.inr h1)) (fz_ne p h2)
    refine h h' s.toks m (setA oc a o') ⟨S.cx, S.ek, S.eg, S.eb, F', N', ?_, fun p hp q hq => ?_, S.cs, fun y Y e => ?_, fun _ y b hb => ?_⟩
    · have := S.nd
      rw [List.map_append, List.map_append] at this ⊢
      rw [setA_addr]
      exact this
    · rcases List.mem_append.mp hp with h1 | h1
      · rcases List.mem_append.mp h1 with h2 | h2
        · rcases mem_setA h2 with rfl | ⟨h3, h4⟩
          · exact Ne.symm (fz_ne q hq)
          · exact S.off p (List.mem_append.mpr (.inl (List.mem_append.mpr (.inl h3)))) q hq
        · exact S.off p (List.mem_append.mpr (.inl (List.mem_append.mpr (.inr h2)))) q hq
      · exact S.off p (List.mem_append.mpr (.inr h1)) q hq
    · rw [lookup_cons_str] at e
      by_cases hy : y = x
      · rw [if_pos hy] at e
        cases e
        exact ⟨v, .cel (by rw [hy]; exact hk) (by rw [hy]; exact ha) (setA_self hm) hd'', rv⟩
      · rw [if_neg hy] at e
        obtain ⟨u, rd, ru⟩ := S.lr y Y e
        refine ⟨u, ?_, ru⟩
        cases rd with
        | loc p q r => exact .loc p q r
        | @cel b o₂ p q r t =>
          have hb : b ≠ a := fun eb => hy (nodup_lookup hnd (eb ▸ q) ha)
          exact .cel p q (setA_of r hb) t
        | @cmp o₂ m₂ p q r t =>
          exact .cmp p q r t
    · by_cases hba : b = a
      · subst hba; exact ⟨o', some v, setA_self hm, hd''⟩
      · obtain ⟨o₂, v₂, h1, h2⟩ := S.cl he y b hb
        exact ⟨o₂, v₂, setA_of h1 hba, h2⟩

theorem wx_assign {x : Str} {px pos : Pos} {e : Expr} {Q : Fl → Env₁ → Store → Prop} (h : We g c ρ σ e fun X σ' => Q .next ((x, X) :: ρ) σ') (he : c.env = c.fenv := by rfl) (hk : Keeps' c x := by exact .inl rfl)
    (hs : swapsWith e (some (.Name x px)) pos.line c.env = pure false := by rfl) : Wx g c ρ σ (.Assign [.Name x px] e pos) Q := by
  intro A h₀ s m oc ob ce fz S P hP
  refine wpAny_Assign_Name (h A h₀ s m oc ob ce fz [] S .nil _ fun a X σ₁ h₁ tk₁ ce₁ fz₁ S₁ sb₁ r q => ?_) hs
  exact st_store S₁ he hk r fun h' tk' m' oc' S' => hP _ _ _ σ₁ h' tk' m' oc' ce₁ fz₁ S' sb₁ .next q

/-! ## the text's own defs -/
theorem LR.start {env : Env} {m : Str → Option Value} {oc ob : Led} {L : Addr} {fz : Led} (hl : env.locals = L) : ∀ {bs : List (Str × Value)} {ρ : Env₁}, (∀ i : Nat, (bs[i]?).map (·.1) = (ρ[i]?).map (·.1)) → Reps fz (bs.map (·.2)) (ρ.map (·.2)) → (∀ x ∈ bs, env.kindOf x.1 = some .local) →
    (∀ x, m x = bs.lookup x) → LR env m oc ob L fz ρ := by
  intro bs ρ hn hr hk hm x X e
  have key : ∀ (bs : List (Str × Value)) (ρ : Env₁), (∀ i : Nat, (bs[i]?).map (·.1) = (ρ[i]?).map (·.1)) → Reps fz (bs.map (·.2)) (ρ.map (·.2)) → ρ.lookup x = some X → ∃ v, bs.lookup x = some v ∧ Rep fz v X ∧ (x, v) ∈ bs := by
    intro bs
    induction bs with
    | nil =>
      intro ρ hn hr e
      cases ρ with
      | nil => simp at e
      | cons q r => exact absurd (hn 0) (by simp)
    | cons p bs ih =>
      intro ρ hn hr e
      cases ρ with
      | nil => simp at e
      | cons q r =>
        obtain ⟨y, v⟩ := p
        obtain ⟨z, Z⟩ := q
        have h0 : y = z := by simpa using hn 0
        subst h0
        cases hr with
        | cons h1 h2 =>
          rw [List.lookup_cons] at e ⊢
          by_cases hx : x = y
          · subst hx
            rw [beq_self_eq_true] at e ⊢
            cases e
            exact ⟨v, rfl, h1, .head _⟩
          · rw [beq_eq_false_iff_ne.mpr hx] at e ⊢
            obtain ⟨u, a, b, d⟩ := ih r (fun i => by simpa using hn (i + 1)) h2 e
            exact ⟨u, a, b, .tail _ d⟩
  obtain ⟨v, a, b, d⟩ := key bs ρ hn hr e
  exact ⟨v, .loc hl (hk _ d) ((hm x).trans a), b⟩

theorem zip_names {α β : Type} : ∀ (ps : List Str) (us : List α) (ws : List β), us.length = ws.length → ∀ i : Nat, ((ps.zip us)[i]?).map (·.1) = ((ps.zip ws)[i]?).map (·.1)
  | [], _, _, _, i => by simp
  | _ :: _, [], [], _, i => by simp
  | p :: ps, u :: us, w :: ws, h, 0 => by simp
  | p :: ps, u :: us, w :: ws, h, i + 1 => by simpa using zip_names ps us ws (by simpa using h) i
theorem zip_snd {fz : Led} : ∀ (ps : List Str) (vs : List Value) (Vs : List V), Reps fz vs Vs → Reps fz ((ps.zip vs).map (·.2)) ((ps.zip Vs).map (·.2))
  | [], _, _, _ => by simp; exact .nil
  | _ :: _, _, _, .nil => by simp; exact .nil
  | p :: ps, _, _, .cons h k => by simp; exact .cons h (zip_snd ps _ _ k)

/-- a call of a def of the text's, its body walked -/
theorem wc_def {d : Nat} {name qual : Str} {params : Arguments} {body : List Stmt} {scope : Scope} {dV kV doc pm cdv ct ocl : Value} {an od : Option Addr} {osl : Array (Option Value)} {f : Addr} {Vs : List V} {Q : V → Store → Prop} (ps : List Str)
    (ho : (hd.heap_1 g.w.params).lookup f = some ⟨ocl, od, .func (fnOf name qual params body scope dV kV doc pm an cdv ct), osl⟩) (hcd : codeIn (hd.heap_1 g.w.params) cdv qual = true)
    (hbind : ∀ (s : Shared) (vs : List Value), vs.length = Vs.length → BindsTo s (fnOf name qual params body scope dV kV doc pm an cdv ct) ⟨vs, []⟩ (ps.zip vs))
    (hloc : ∀ y ∈ ps, scope.names.lookup y = some .local)
    (h : ∀ L, Wss g ⟨d, envOf qual scope L f cdv, envOf qual scope L f cdv⟩ (ps.zip Vs).reverse σ body fun fl _ σ' => Q (match fl with | .ret X => X | _ => .none) σ')
    (hco : scope.isCoroutine = false := by rfl) (hgen : scope.isGenerator = false := by rfl) (hk : scope.kind = .function := by rfl) (hcell : ∀ x ∈ scope.names, x.2 ≠ .cell := by decide) : Wc g (d + 1) (.ref f) σ Vs Q := by
  intro c ρ hle A h₀ s m oc ob ce fz vs S R P hP
  obtain ⟨A₀, base, outer, B, hA⟩ := S.cx.bel
  have hlen : vs.length = Vs.length := R.length
  refine code_defG B S.F S.cx.X S.N S.cx.T hA S.cx.fr S.cx.kd ho hcd ?_ (hbind s vs hlen) (fun y hy => hloc _ ?_) ?_ hco hgen hk hcell
  · have := S.cx.room; omega
  · exact (List.of_mem_zip hy).1
  · intro gh L' h₁ FG F' N' B' X' T' G'
    have S' : St g ⟨d, envOf qual scope L' f cdv, envOf qual scope L' f cdv⟩ (ps.zip Vs).reverse (A.deeper (envOf qual scope L' f cdv)) gh { s with heap := h₁, toks := s.toks + (ps.zip vs).length } (fun y => (ps.zip vs).reverse.lookup y) [] (oc ++ ob) ce fz σ := by
      refine ⟨⟨⟨A, base, c.fenv :: outer, B', ?_⟩, rfl, hk, X', T', ?_, S.cx.hh, ?_, ?_⟩, hk, rfl, rfl, F', ?_, ?_, ?_, S.cs, ?_, fun _ x a e => ?_⟩
      · show A.frames.map (envOf qual scope L' f cdv :: ·) = _
        rw [hA]; rfl
      · obtain ⟨o, ho, r⟩ := S.cx.sc
        exact ⟨o, G' _ _ (S.F.keep _ _ ho) (fun hm => by
          obtain ⟨p, hp, e⟩ := List.mem_map.mp hm
          have := (S.N p hp).2.2
          rw [e, ho] at this
          cases this), r⟩
      · have := S.cx.room
        show A.depth + 1 + d < recursionLimit
        omega
      · have := S.cx.units
        show A.units + 3 + 8 * d < cLine
        omega
      · show News gh L' h₁ _
        simpa using N'
      · simpa using S.nd
      · simpa using S.off
      · refine LR.start (bs := (ps.zip vs).reverse) rfl (fun i => ?_) ?_ (fun x hx => hloc _ (List.of_mem_zip (List.mem_reverse.mp hx)).1) fun _ => rfl
        · have e1 : ∀ {γ : Type} (l : List (Str × γ)) (i : Nat), (l[i]?).map (·.1) = (l.map (·.1))[i]? := fun l i => by simp
          have e2 : (ps.zip vs).map (·.1) = (ps.zip Vs).map (·.1) := by
            apply List.ext_getElem?
            intro i
            rw [← e1, ← e1]
            exact zip_names ps vs Vs hlen i
          rw [e1, e1, List.map_reverse, List.map_reverse, e2]
        · rw [List.map_reverse, List.map_reverse]
          exact (zip_snd ps vs Vs R).reverse
      · cases e
    refine wpAny_mono (h L' _ gh _ _ [] (oc ++ ob) ce fz S' (fun fl s' => LeaveK h₀ c.fenv.locals m gh (Back P) (match fl with | .ret v => v | _ => .none) s') fun fl Fl ρ' σ' h' tk' m' oc' ce' fz' S₂ sb rf q => ?_) (fun fl s' h => h) fun _ _ x => x.elim
    refine ⟨L', m', (oc ++ ob) ++ (ce' ++ fz'), S₂.F, fun p hp => ?_, fun F₃ N₃ => ?_⟩
    · rcases List.mem_append.mp hp with h1 | h1
      · exact S₂.No p (List.mem_append.mpr (.inr h1))
      · exact S₂.N p (List.mem_append.mpr (.inr h1))
    · have nd₃ : ((oc ++ ob ++ ce').map (·.1)).Nodup := by
        have := S₂.nd
        rw [List.append_assoc, List.map_append, List.nodup_append] at this
        simpa using this.2.1
      have S₃ : St g c ρ A h₀ { s with heap := h', toks := tk' } m oc ob ce' fz' σ' :=
        ⟨S.cx, S.ek, S.eg, S.eb, F₃, N₃, nd₃, fun p hp q hq => S₂.off p (by rw [List.append_assoc]; exact List.mem_append.mpr (.inr hp)) q hq, S₂.cs, S.lr.mono sb, S.cl⟩
      cases rf with
      | ret r => exact hP _ _ σ' h' tk' ce' fz' S₃ sb r q
      | next => exact hP _ _ σ' h' tk' ce' fz' S₃ sb .none q
      | brk => exact hP _ _ σ' h' tk' ce' fz' S₃ sb .none q
      | cont => exact hP _ _ σ' h' tk' ce' fz' S₃ sb .none q
end
-- W6
section
variable {g : G} {c : Cfg} {ρ : Env₁} {σ : Store}

/-! ## loops -/
/-- one turn's end -/
def TurnQ (Q : Fl → Env₁ → Store → Prop) (I : Env₁ → Store → Prop) (fl : Fl) (ρ' : Env₁) (σ' : Store) : Prop :=
  match fl with
  | .next => I ρ' σ'
  | .cont => I ρ' σ'
  | .brk => Q .next ρ' σ'
  | .ret X => Q (.ret X) ρ' σ'

theorem no_err {α : Type} {M : Model} {A : Around} {t : Sem α} {P P' : α → Shared → Prop} {E : Value → Shared → Prop} {s : Shared} (h : wpAny M A t P (fun _ _ => False) s) (k : ∀ a s, P a s → P' a s) : wpAny M A t P' E s :=
  wpAny_mono h k fun _ _ x => x.elim

end
-- W7
section
variable {g : G} {c : Cfg} {ρ : Env₁} {σ : Store}

/-- a while, by what holds at each turn and a measure -/
theorem wx_while {t : Expr} {body : List Stmt} {pos : Pos} {Q : Fl → Env₁ → Store → Prop} (J : Nat → Env₁ → Store → Prop) (n₀ : Nat) (h0 : J n₀ ρ σ)
    (turn : ∀ n ρ' σ', J n ρ' σ' → Wt g c ρ' σ' t fun b σ₂ => match b with
      | true => Wss g c ρ' σ₂ body (TurnQ Q fun ρ₃ σ₃ => ∃ m, m < n ∧ J m ρ₃ σ₃)
      | false => Q .next ρ' σ₂) : Wx g c ρ σ (.While t body [] pos) Q := by
  intro A h₀ s m oc ob ce fz S P hP
  refine wpAny_While (codeAny_whileLoop (fun n s' => ∃ h' tk' ρ' σ' m' oc' ce' fz', s' = { s with heap := h', toks := tk' } ∧ St g c ρ' A h₀ s' m' oc' ob ce' fz' σ' ∧ Sub fz fz' ∧ J n ρ' σ') ?_ n₀ ⟨s.heap, s.toks, ρ, σ, m, oc, ce, fz, rfl, S, Sub.refl _, h0⟩)
  rintro n s' ⟨h', tk', ρ', σ', m', oc', ce', fz', rfl, S', sb', hJ⟩
  refine no_err (turn n ρ' σ' hJ A h₀ _ m' oc' ob ce' fz' [] S' .nil _ fun a b σ₂ h₂ tk₂ ce₂ fz₂ S₂ sb₂ e q => ?_) fun _ _ h => h
  cases e
  cases a with
  | false =>
    simp only [Bool.false_eq_true, if_false]
    exact wpAny_execs_nil (hP _ _ ρ' σ₂ h₂ tk₂ m' oc' ce₂ fz₂ S₂ (sb'.trans sb₂) .next q)
  | true =>
    simp only [if_true]
    refine no_err (q A h₀ _ m' oc' ob ce₂ fz₂ S₂ _ fun f fl ρ₄ σ₄ h₄ tk₄ m₄ oc₄ ce₄ fz₄ S₄ sb₄ rf q => ?_) fun _ _ h => h
    cases rf with
    | next => obtain ⟨k, hk, q⟩ := q; exact ⟨k, hk, h₄, tk₄, ρ₄, σ₄, m₄, oc₄, ce₄, fz₄, rfl, S₄, sb'.trans (sb₂.trans sb₄), q⟩
    | cont => obtain ⟨k, hk, q⟩ := q; exact ⟨k, hk, h₄, tk₄, ρ₄, σ₄, m₄, oc₄, ce₄, fz₄, rfl, S₄, sb'.trans (sb₂.trans sb₄), q⟩
    | brk => exact hP _ _ ρ₄ σ₄ h₄ tk₄ m₄ oc₄ ce₄ fz₄ S₄ (sb'.trans (sb₂.trans sb₄)) .next q
    | ret r => exact hP _ _ ρ₄ σ₄ h₄ tk₄ m₄ oc₄ ce₄ fz₄ S₄ (sb'.trans (sb₂.trans sb₄)) (.ret r) q

/-! ## items -/
/-- a subscript, the base a name -/
theorem we_sub {v i : Expr} {pos : Pos} {Q : V → Store → Prop} (h : We g c ρ σ v fun X σ₁ => We g c ρ σ₁ i fun Y σ₂ => Wp g c ρ σ₂ [X, Y] Rep (op2 (subscriptTail v i)) Q) : We g c ρ σ (.Subscript v i pos) Q := by
  intro A h₀ s m oc ob ce fz vs S R P hP
  refine Subscript_ ?_
  refine h A h₀ s m oc ob ce fz _ S .nil _ fun a X σ₁ h₁ tk₁ ce₁ fz₁ S₁ sb₁ ra hr => ?_
  refine hr A h₀ _ m oc ob ce₁ fz₁ _ S₁ .nil _ fun b Y σ₂ h₂ tk₂ ce₂ fz₂ S₂ sb₂ rb ho => ?_
  refine ho A h₀ _ m oc ob ce₂ fz₂ [a, b] S₂ (.cons (ra.mono sb₂) (.cons rb .nil)) _ fun v Z σ₃ h₃ tk₃ ce₃ fz₃ S₃ sb₃ rz hq => ?_
  exact hP v Z σ₃ h₃ tk₃ ce₃ fz₃ S₃ (sb₁.trans (sb₂.trans sb₃)) rz hq
theorem subscripted_int (i : Expr) (o : Value) (k : Int) (u : Tok) (h : (match i with | .Slice .. => false | _ => true) = true) : subscripted i false o (.int k u) = operate [o, .int k u] (getItem o (.int k u)) := by
  unfold subscripted
  split <;> first | rfl | simp_all
theorem sub_list {v i : Expr} {Xs : List V} {k : Int} {j : Nat} {Y : V} {Q : V → Store → Prop} (hk : k = (j : Int)) (hj : Xs[j]? = some Y) (hb : j < 2 ^ 62) (h : Q Y σ)
    (hs : (match i with | .Slice .. => false | _ => true) = true := by rfl) : Wp g c ρ σ [.list Xs, .int k] Rep (op2 (subscriptTail v i)) Q :=
  wp_pure2 fun A h₀ s m oc ob ce fz x y S rx ry P hP => by
    cases ry
    cases rx with
    | @list a vs n _ hm hr =>
    obtain ⟨u, hu, ru⟩ := hr.get hj
    have hl : s.heap.IsList a vs.toArray := ⟨_, (S.Nz _ hm).1, rfl, n, rfl⟩
    subst hk
    exact tail_any hl.typeIs slot_list_getitem.lookup (wpAny_getItem_list hl (by omega) (by omega) (by simpa using hu) (hP u Y s.heap s.toks fz S (Sub.refl _) ru h)) (subscripted_int _ _ _ _ hs)
theorem sub_tup {v i : Expr} {Xs : List V} {k : Int} {j : Nat} {Y : V} {Q : V → Store → Prop} (hk : seqIndex? k Xs.length = some j) (hj : Xs[j]? = some Y) (hb : -(2 ^ 63) ≤ k ∧ k < 2 ^ 63) (h : Q Y σ)
    (hs : (match i with | .Slice .. => false | _ => true) = true := by rfl) : Wp g c ρ σ [.tup Xs, .int k] Rep (op2 (subscriptTail v i)) Q :=
  wp_pure2 fun A h₀ s m oc ob ce fz x y S rx ry P hP => by
    cases ry
    cases rx with
    | @tup a vs n _ hm hr =>
    obtain ⟨u, hu, ru⟩ := hr.get hj
    have hl : IsTup s.heap a vs.toArray := ⟨_, (S.Nz _ hm).1, rfl, n, rfl⟩
    exact item_tupleT hl hb.1 hb.2 (by rw [hr.length]; exact hk) hu (hP u Y s.heap s.toks fz S (Sub.refl _) ru h) (subscripted_int _ _ _ _ hs)
theorem sub_str {v i : Expr} {x : Str} {k : Int} {ch : Nat} {Q : V → Store → Prop} (hc : (seqIndex? k x.length).bind (x.cps[·]?) = some ch) (hb : -(2 ^ 63) ≤ k ∧ k < 2 ^ 63) (h : Q (.str ⟨#[ch]⟩) σ)
    (hs : (match i with | .Slice .. => false | _ => true) = true := by rfl) : Wp g c ρ σ [.str x, .int k] Rep (op2 (subscriptTail v i)) Q :=
  wp_pure2 fun A h₀ s m oc ob ce fz a y S rx ry P hP => by
    cases ry
    cases rx
    exact tail_any (typeIs_str s x _) slot_str_getitem.lookup (PyProof.Rows.getItem_str (by simp; omega) hc (hP _ (.str ⟨#[ch]⟩) s.heap _ fz (S.toks _) (Sub.refl _) .str h)) (subscripted_int _ _ _ _ hs)

/-- a slice's ends -/
def Ends : V → Option Int → Prop := fun X o => match X with
  | .int i => o = some i
  | .none => o = none
  | _ => False
def We? (g : G) (c : Cfg) (ρ : Env₁) (σ : Store) (e : Option Expr) (Q : V → Store → Prop) : Prop := match e with
  | some e => We g c ρ σ e Q
  | none => Q .none σ
theorem We?.part {e : Option Expr} {Q : V → Store → Prop} (h : We? g c ρ σ e Q) : Wp g c ρ σ [] Rep (fun _ => evalPart e c.env) Q := by
  cases e with
  | some e => exact h
  | none =>
    intro A h₀ s m oc ob ce fz vs S R P hP
    exact wpAny_pure (hP _ .none σ s.heap s.toks ce fz S (Sub.refl _) .none h)
theorem we_slice {v : Expr} {lo up : Option Expr} {p pos : Pos} {Q : V → Store → Prop} (h : We g c ρ σ v fun X σ₁ => We? g c ρ σ₁ lo fun Y σ₂ => We? g c ρ σ₂ up fun Z σ₃ =>
      ∃ Xs l u Us, X = .list Xs ∧ Ends Y l ∧ Ends Z u ∧ Xs.length ≤ 2 ^ 24 ∧ (∀ fz vs, Reps fz vs Xs → Reps fz (slicePick vs.toArray l u none).toList Us) ∧ Q (.list Us) σ₃)
    (ht : ∀ o r, letTemporaryGo v o r = pure () := by intro _ _; rfl) : We g c ρ σ (.Subscript v (.Slice lo up none p) pos) Q := by
  intro A h₀ s m oc ob ce fz vs S R P hP
  refine wpAny_Subscript_list_slice ?_ ht
  refine h A h₀ s m oc ob ce fz _ S .nil _ fun a X σ₁ h₁ tk₁ ce₁ fz₁ S₁ sb₁ ra hr => ?_
  refine hr.part A h₀ _ m oc ob ce₁ fz₁ [] S₁ .nil _ fun y Y σ₂ h₂ tk₂ ce₂ fz₂ S₂ sb₂ ry hr2 => ?_
  refine hr2.part A h₀ _ m oc ob ce₂ fz₂ [] S₂ .nil _ fun z Z σ₃ h₃ tk₃ ce₃ fz₃ S₃ sb₃ rz ⟨Xs, l, u, Us, eX, eY, eZ, hz, hUs, q⟩ => ?_
  subst eX
  have ra' := ra.mono (sb₂.trans sb₃)
  cases ra' with
  | @list b vs n _ hm hrs =>
  have hl : h₃.IsList b vs.toArray := ⟨_, (S₃.Nz _ hm).1, rfl, n, rfl⟩
  have parts : ∀ {w : Value} {W : V} {o : Option Int} {fz : Led}, Rep fz w W → Ends W o → IsPart w o := fun r e => by
    cases r <;> simp only [Ends] at e <;> first | (subst e; constructor) | exact e.elim
  refine ⟨b, vs.toArray, l, u, rfl, hl, by rw [List.size_toArray, hrs.length, sizeLine_eq]; exact hz, parts ry (by exact eY), parts rz eZ, ?_⟩
  have S₄ := S₃.keeps (h' := h₃.push { cls := .type "slice", data := .fields #[y, z, .none] }) tk₃ fun b o' e => Heap.get?_push_of_some _ e
  have S₅ := S₄.push { cls := .type "list", data := .seq (slicePick vs.toArray l u none) } rfl tk₃
  have e : (h₃.push { cls := .type "slice", data := .fields #[y, z, .none] }).objs.size = h₃.objs.size + 1 := by rw [Heap.size_push]
  refine hP _ (.list Us) σ₃ _ tk₃ ce₃ _ S₅ (sb₁.trans (sb₂.trans (sb₃.trans (Sub.cons _ _)))) ?_ q
  rw [← e]
  refine .list (vs := (slicePick vs.toArray l u none).toList) (n := 0) ?_ ((hUs fz₃ vs hrs).mono (Sub.cons _ _))
  simp
theorem pick_from {fz : Led} {vs : List Value} {Xs : List V} (h : Reps fz vs Xs) (a : Nat) : Reps fz (slicePick vs.toArray (some (a : Int)) none none).toList (Xs.drop a) := by
  rw [slicePick_from']
  exact h.drop a
theorem pick_upto {fz : Led} {vs : List Value} {Xs : List V} (h : Reps fz vs Xs) (a : Nat) : Reps fz (slicePick vs.toArray none (some (a : Int)) none).toList (Xs.take a) := by
  rw [slicePick_upto']
  exact h.take a
end
-- W8
section
variable {g : G} {c : Cfg} {ρ : Env₁} {σ : Store}

theorem ints_reps {fz : Led} : ∀ {vs : List Value} {ns : List Int}, IntsAre vs ns → Reps fz vs (ns.map V.int)
  | _, _, .nil => .nil
  | _, _, .cons _ _ h => .cons .int (ints_reps h)
/-- the script's first items -/
theorem we_script {v : Expr} {p pos : Pos} {a : Nat} {lo up : Option Expr} {Q : V → Store → Prop} (h : We g c ρ σ v fun X σ₁ => We? g c ρ σ₁ lo fun Y σ₂ => We? g c ρ σ₂ up fun Z σ₃ => X = .raw (.ref g.scr) ∧ Ends Y none ∧ Ends Z (some (a : Int)) ∧ g.svs.length ≤ 2 ^ 24 ∧ Q (.list ((g.sns.take a).map V.int)) σ₃)
    (ht : ∀ o r, letTemporaryGo v o r = pure () := by intro _ _; rfl) : We g c ρ σ (.Subscript v (.Slice lo up none p) pos) Q := by
  intro A h₀ s m oc ob ce fz vs S R P hP
  refine wpAny_Subscript_list_slice ?_ ht
  refine h A h₀ s m oc ob ce fz _ S .nil _ fun x X σ₁ h₁ tk₁ ce₁ fz₁ S₁ sb₁ ra hr => ?_
  refine hr.part A h₀ _ m oc ob ce₁ fz₁ [] S₁ .nil _ fun y Y σ₂ h₂ tk₂ ce₂ fz₂ S₂ sb₂ ry hr2 => ?_
  refine hr2.part A h₀ _ m oc ob ce₂ fz₂ [] S₂ .nil _ fun z Z σ₃ h₃ tk₃ ce₃ fz₃ S₃ sb₃ rz ⟨eX, eY, eZ, hz, q⟩ => ?_
  subst eX
  cases ra
  have hl : h₃.IsList g.scr g.svs.toArray := S.cx.sc.at fun o e => S₃.F.keep _ o e
  have parts : ∀ {w : Value} {W : V} {o : Option Int} {fz : Led}, Rep fz w W → Ends W o → IsPart w o := fun r e => by
    cases r <;> simp only [Ends] at e <;> first | (subst e; constructor) | exact e.elim
  refine ⟨g.scr, g.svs.toArray, none, some (a : Int), rfl, hl, by rw [List.size_toArray, sizeLine_eq]; exact hz, parts ry eY, parts rz eZ, ?_⟩
  have S₄ := S₃.keeps (h' := h₃.push { cls := .type "slice", data := .fields #[y, z, .none] }) tk₃ fun b o' e => Heap.get?_push_of_some _ e
  have S₅ := S₄.push { cls := .type "list", data := .seq (slicePick g.svs.toArray none (some (a : Int)) none) } rfl tk₃
  have e : (h₃.push { cls := .type "slice", data := .fields #[y, z, .none] }).objs.size = h₃.objs.size + 1 := by rw [Heap.size_push]
  refine hP _ (.list ((g.sns.take a).map V.int)) σ₃ _ tk₃ ce₃ _ S₅ (sb₁.trans (sb₂.trans (sb₃.trans (Sub.cons _ _)))) ?_ q
  rw [← e]
  refine .list (vs := (slicePick g.svs.toArray none (some (a : Int)) none).toList) (n := 0) (by simp) ?_
  rw [slicePick_upto']
  exact ints_reps (g.are.take a)

/-! ## lists -/
theorem add_lists' {Xs Ys : List V} {Q : V → Store → Prop} (hz : Xs.length + Ys.length ≤ 2 ^ 24) (h : Q (.list (Xs ++ Ys)) σ) : Wp g c ρ σ [.list Xs, .list Ys] Rep (op2 (binaryOp .Add)) Q :=
  wp_pure2 fun A h₀ s m oc ob ce fz x y S rx ry P hP => by
    cases rx with
    | @list a vs n _ hm hr =>
    cases ry with
    | @list b us k _ hm' hr' =>
    have hl : s.heap.IsList a vs.toArray := ⟨_, (S.Nz _ hm).1, rfl, n, rfl⟩
    have hl' : s.heap.IsList b us.toArray := ⟨_, (S.Nz _ hm').1, rfl, k, rfl⟩
    refine add_lists S.F S.N hl hl' (fun h' F' N' => ?_) (by rw [hr.length, hr'.length, sizeLine_eq]; exact hz)
    exact hP _ (.list (Xs ++ Ys)) h' s.toks _ (S.ofNews s.toks F' N') (Sub.cons _ _) (.list (.head _) ((hr.append hr').mono (Sub.cons _ _))) h
theorem foldl_app (vs : List Value) : ∀ (n : Nat) (acc : Array Value), List.foldl (fun x1 x2 => x1 ++ x2) acc (List.replicate n vs.toArray) = (acc.toList ++ (List.replicate n vs).flatten).toArray
  | 0, acc => by simp
  | n + 1, acc => by
    rw [List.replicate_succ, List.foldl_cons, foldl_app vs n, List.replicate_succ]
    simp
theorem reps_rep {fz : Led} {vs : List Value} {Xs : List V} (h : Reps fz vs Xs) : ∀ n, Reps fz (List.replicate n vs).flatten (List.replicate n Xs).flatten
  | 0 => by simp; exact .nil
  | n + 1 => by
    simp only [List.replicate_succ, List.flatten_cons]
    exact h.append (reps_rep h n)
theorem mul_list' {Xs : List V} {k : Int} {Q : V → Store → Prop} (hx : Xs ≠ []) (h0 : 0 ≤ k) (hk : k < 2 ^ 62) (hz : Xs.length * k.toNat ≤ 2 ^ 24) (h : Q (.list (List.replicate k.toNat Xs).flatten) σ) : Wp g c ρ σ [.list Xs, .int k] Rep (op2 (binaryOp .Mult)) Q :=
  wp_pure2 fun A h₀ s m oc ob ce fz x y S rx ry P hP => by
    cases ry
    cases rx with
    | @list a vs n _ hm hr =>
    refine mul_list S.F S.N (S.Nz _ hm).1 (by lia) (by lia) (by rw [List.size_toArray, hr.length]; exact hz) (fun h' F' N' => ?_)
    have hne : vs.toArray.isEmpty = false := by
      cases hr with
      | nil => exact absurd rfl hx
      | cons _ _ => rfl
    simp only [hne, Bool.false_eq_true, if_false, foldl_app] at N'
    exact hP _ (.list (List.replicate k.toNat Xs).flatten) h' s.toks _ (S.ofNews s.toks F' N') (Sub.cons _ _) (.list (vs := (List.replicate k.toNat vs).flatten) (n := 0) (by simp) ((reps_rep hr _).mono (Sub.cons _ _))) h
theorem len_list' {Xs : List V} {Q : V → Store → Prop} (hz : Xs.length < 2 ^ 62) (h : Q (.int Xs.length) σ) : Wp g c ρ σ [.list Xs] Rep (fun vs => call (.builtin "len") vs) Q := by
  intro A h₀ s m oc ob ce fz vs S R P hP
  cases R with
  | cons ra R => cases R with
    | nil => cases ra with
      | @list a us n _ hm hr =>
      have hl : s.heap.IsList a us.toArray := ⟨_, (S.Nz _ hm).1, rfl, n, rfl⟩
      refine call_len_list hl (by rw [List.size_toArray, hr.length]; lia) ?_
      have e : us.toArray.size = Xs.length := by rw [List.size_toArray, hr.length]
      rw [e]
      exact hP _ (.int Xs.length) σ s.heap _ ce fz (S.toks _) (Sub.refl _) .int h
theorem len_str' {x : Str} {Q : V → Store → Prop} (hz : x.length < 2 ^ 62) (h : Q (.int x.length) σ) : Wp g c ρ σ [.str x] Rep (fun vs => call (.builtin "len") vs) Q := by
  intro A h₀ s m oc ob ce fz vs S R P hP
  cases R with
  | cons ra R => cases R with
    | nil => cases ra with
      | str => exact PyProof.Rows.len_str (by lia) (hP _ (.int x.length) σ s.heap _ ce fz (S.toks _) (Sub.refl _) .int h)

/-! ## is, in -/
def V.isNone : V → Bool
  | .none => true
  | _ => false
theorem is_none {X : V} {Q : V → Store → Prop} (hx : X.plain = true) (h : Q (.bool X.isNone) σ) : Wp g c ρ σ [X, .none] Rep (op2 (compareOp .Is)) Q :=
  wp_pure2 fun A h₀ s m oc ob ce fz x y S rx ry P hP => by
    cases ry
    cases rx <;> first
      | exact wpAny_is_plain rfl (hP _ (.bool _) s.heap s.toks fz S (Sub.refl _) .bool h)
      | cases hx
theorem isnt_none {X : V} {Q : V → Store → Prop} (hx : X.plain = true) (h : Q (.bool (!X.isNone)) σ) : Wp g c ρ σ [X, .none] Rep (op2 (compareOp .IsNot)) Q :=
  wp_pure2 fun A h₀ s m oc ob ce fz x y S rx ry P hP => by
    cases ry
    cases rx <;> first
      | exact wpAny_isNot_plain rfl (hP _ (.bool _) s.heap s.toks fz S (Sub.refl _) .bool h)
      | cases hx
theorem strs_are {fz : Led} : ∀ {vs : List Value} {ys : List Str}, Reps fz vs (ys.map V.str) → StrsAre vs ys
  | _, [], .nil => .nil
  | _, _ :: _, .cons .str h => .cons _ _ (strs_are h)
theorem in_tup {x : Str} {ys : List Str} {Q : V → Store → Prop} (h : Q (.bool (ys.any (· == x))) σ) : Wp g c ρ σ [.str x, .tup (ys.map V.str)] Rep (op2 (compareOp .In)) Q :=
  wp_pure2 fun A h₀ s m oc ob ce fz a y S rx ry P hP => by
    cases rx
    cases ry with
    | @tup b vs n _ hm hr =>
    have hl : IsTup s.heap b vs.toArray := ⟨_, (S.Nz _ hm).1, rfl, n, rfl⟩
    exact in_tuple_strs hl (by simpa using strs_are hr) (hP _ (.bool (ys.any (· == x))) s.heap s.toks fz S (Sub.refl _) .bool h)
end
-- W9
section
variable {g : G} {c : Cfg} {ρ : Env₁} {σ : Store}

/-! ## what may turn -/
theorem fresh_cell {A : Around} {h₀ : Heap} {s : Shared} {m : Str → Option Value} {oc ob ce fz : Led} (S : St g c ρ A h₀ s m oc ob ce fz σ) : s.heap.objs.size ∉ σ.map (·.1) := fun hm => by
  rw [← S.cs.addr] at hm
  obtain ⟨p, hp, e⟩ := List.mem_map.mp hm
  have := Heap.lt_size (S.Nc p hp).1
  rw [e] at this
  exact Nat.lt_irrefl _ this
theorem put_off {σ : Store} {a : Addr} {x : Cel} (h : a ∉ σ.map (·.1)) : put σ a x = σ := by
  unfold put
  conv => rhs; rw [← List.map_id σ]
  exact List.map_congr_left fun p hp => if_neg fun (e : p.1 = a) => h (by rw [← e]; exact List.mem_map_of_mem hp)
/-- a list display that is to turn -/
theorem we_list_cell {es : List Expr} {pos : Pos} {Q : V → Store → Prop} (h : Wl g c ρ σ (backTo pos (starEach es c.env)) fun Xs σ' => Xs.length ≤ 1000 ∧ ∀ a, a ∉ σ'.map (·.1) → Q (.cell a) ((a, .list Xs) :: σ')) : We g c ρ σ (.List es pos) Q := by
  intro A h₀ s m oc ob ce fz vs S R P hP
  refine wpAny_List (h A h₀ s m oc ob ce fz [] S .nil _ fun as Xs σ₁ h₁ tk₁ ce₁ fz₁ S₁ sb₁ ras q => ?_)
  refine ⟨by rw [ras.length]; exact Nat.le_trans q.1 (by decide), ?_⟩
  have S₂ := S₁.newCell (o := lstO as 0) (x := .list Xs) rfl (.list ras) tk₁
  exact hP _ _ _ _ tk₁ _ _ S₂ sb₁ .cell (q.2 _ (fresh_cell S₁))
theorem we_arr_cell {es : List Expr} {pos : Pos} {Q : V → Store → Prop} (h : Wl g c ρ σ (backTo pos (starEach es c.env)) fun Xs σ' => Xs.length ≤ 1000 ∧ ∀ a, a ∉ σ'.map (·.1) → Q (.cell a) ((a, .arr Xs) :: σ')) : We g c ρ σ (.List es pos) Q := by
  intro A h₀ s m oc ob ce fz vs S R P hP
  refine wpAny_List (h A h₀ s m oc ob ce fz [] S .nil _ fun as Xs σ₁ h₁ tk₁ ce₁ fz₁ S₁ sb₁ ras q => ?_)
  refine ⟨by rw [ras.length]; exact Nat.le_trans q.1 (by decide), ?_⟩
  have S₂ := S₁.newCell (o := lstO as 0) (x := .arr Xs) rfl (.arr rfl rfl ras) tk₁
  exact hP _ _ _ _ tk₁ _ _ S₂ sb₁ .cell (q.2 _ (fresh_cell S₁))

theorem put_head {σ : Store} {a : Addr} {x y : Cel} (h : a ∉ σ.map (·.1)) : put ((a, x) :: σ) a y = (a, y) :: σ := by
  simp only [put, List.map_cons, if_true]
  congr 1
  conv => rhs; rw [← List.map_id σ]
  exact List.map_congr_left fun p hp => if_neg fun (e : p.1 = a) => h (by rw [← e]; exact List.mem_map_of_mem hp)

theorem lookup_top {σ : Store} {a : Addr} {x : Cel} : List.lookup a ((a, x) :: σ) = some x := by simp
theorem put_top {σ : Store} {a : Addr} {x y : Cel} : put ((a, x) :: σ) a y = (a, y) :: put σ a y := by simp [put]
/-- x.append(e), x a list that turns -/
theorem wx_append {x : Str} {px apos pos pos' : Pos} {e : Expr} {a : Addr} {Xs : List V} {pl : Sem Bool} {Q : Fl → Env₁ → Store → Prop} (hx : ρ.lookup x = some (.cell a)) (hz : Xs.length ≤ 2 ^ 20)
    (h : We g c ρ σ e fun Y σ' => σ'.lookup a = some (.list Xs) ∧ Q .next ρ (put σ' a (.list (Xs ++ [Y]))))
    (hd : (x == ("__debug__" : Str)) = false := by decide) (hst : starEach [e] c.env = [(false, eval e c.env)] := by rfl) (hi : interactive c.env = false := by rfl)
    (hl : ∃ X, σ.lookup a = some (.list X) := by exact ⟨_, lookup_top⟩)
    (he : eval (.Call (.Attribute (.Name x px) (Str.ofString "append") apos) [e] [] pos) c.env = (do
      let ov ← eval (.Name x px) c.env
      standAt apos.atName
      let (f, first) ← holding [ov] (getMethod ov (Str.ofString "append") pl)
      callWith pos f first (backTo pos (starEach [e] c.env)) []) := by rfl) :
    Wx g c ρ σ (.Expr (.Call (.Attribute (.Name x px) (Str.ofString "append") apos) [e] [] pos) pos') Q := by
  intro A h₀ s m oc ob ce fz S P hP
  refine wpAny_Expr_any ?_ hi rfl
  refine MethodCall_ (pl := pl) ?_ he
  refine we_name (Q := fun X σ' => X = .cell a ∧ σ' = σ) hx ⟨rfl, rfl⟩ hd A h₀ s m oc ob ce fz [] S .nil _ fun v X σ₁ h₁ tk₁ ce₁ fz₁ S₁ sb₁ ra q => ?_
  obtain ⟨rfl, rfl⟩ := q
  cases ra
  obtain ⟨X₀, hX₀⟩ := hl
  obtain ⟨o, hmo, hco⟩ := S₁.cs.find hX₀
  cases hco with
  | list hrs =>
  refine getMethod_list_append (S₁.Nc _ hmo).1 rfl rfl ?_
  refine callWith_builtin ?_ (evalArgs_no (ts := backTo pos (starEach [e] c.env)) ?_ ?_)
  · rw [hst]; rfl
  · rw [hst]; exact ⟨rfl, rfl⟩
  · rw [hst]
    refine spliced_cons (h A h₀ _ m oc ob ce₁ fz₁ [] S₁ .nil _ fun y Y σ₂ h₂ tk₂ ce₂ fz₂ S₂ sb₂ ry hq => ?_)
    refine spliced_nil ?_
    obtain ⟨hl₂, hq⟩ := hq
    obtain ⟨o₂, hmo₂, hco₂⟩ := S₂.cs.find hl₂
    cases hco₂ with
    | @list us k _ hrs₂ =>
    refine append_at (its := us.toArray) (n := k) (S₂.Nc _ hmo₂).1 (fun h₃ hs₃ ho₃ => ?_) (by rw [List.size_toArray, hrs₂.length, sizeLine_eq]; omega)
    have S₃ := S₂.setCell (o' := lstO (us ++ [y]) (k + 1)) hmo₂ (CelRep.list (hrs₂.append (.cons ry .nil))) tk₂ (by rw [ho₃]; simp) hs₃
    exact hP _ _ ρ _ h₃ tk₂ m oc _ fz₂ S₃ (sb₁.trans sb₂) .next hq
/-- x.reverse() -/
theorem wx_reverse {x : Str} {px apos pos pos' : Pos} {a : Addr} {Xs : List V} {pl : Sem Bool} {Q : Fl → Env₁ → Store → Prop} (hx : ρ.lookup x = some (.cell a)) (hl : σ.lookup a = some (.list Xs)) (hz : Xs.length ≤ 2 ^ 20)
    (h : Q .next ρ (put σ a (.list Xs.reverse)))
    (hd : (x == ("__debug__" : Str)) = false := by decide) (hi : interactive c.env = false := by rfl)
    (he : eval (.Call (.Attribute (.Name x px) (Str.ofString "reverse") apos) [] [] pos) c.env = (do
      let ov ← eval (.Name x px) c.env
      standAt apos.atName
      let (f, first) ← holding [ov] (getMethod ov (Str.ofString "reverse") pl)
      callWith pos f first (backTo pos (starEach [] c.env)) []) := by rfl) :
    Wx g c ρ σ (.Expr (.Call (.Attribute (.Name x px) (Str.ofString "reverse") apos) [] [] pos) pos') Q := by
  intro A h₀ s m oc ob ce fz S P hP
  refine wpAny_Expr_any ?_ hi rfl
  refine MethodCall_ (pl := pl) ?_ he
  refine we_name (Q := fun X σ' => X = .cell a ∧ σ' = σ) hx ⟨rfl, rfl⟩ hd A h₀ s m oc ob ce fz [] S .nil _ fun v X σ₁ h₁ tk₁ ce₁ fz₁ S₁ sb₁ ra q => ?_
  obtain ⟨rfl, rfl⟩ := q
  cases ra
  obtain ⟨o, hmo, hco⟩ := S₁.cs.find hl
  cases hco with
  | @list us k _ hrs =>
  have ho := S₁.Nc _ hmo
  refine getMethod_list_of PySem.F.slot_list_reverse PySem.F.type_list_reverse ⟨_, ho.1, rfl, k, rfl⟩ ⟨_, ho.1, rfl⟩ ?_
  refine callWith_builtin rfl (evalArgs_nil3 ?_)
  have hsz : us.toArray.size ≤ sizeLine := by rw [List.size_toArray, hrs.length, sizeLine_eq]; omega
  refine call_meets PySem.F.slot_list_reverse ⟨_, ho.1, rfl⟩ PySem.F.entry_list_reverse (PySem.F.args_list_reverse_1 _) (AutoSeq1.list_reverse_list_0 a us.toArray k hsz) ⟨ho.1, ?_⟩
  refine hP _ _ ρ _ _ tk₁ m oc _ fz₁ (S₁.setCell (o' := lstO us.reverse k) hmo (CelRep.list hrs.reverse) tk₁ ?_ (Heap.SameBut.update ..)) sb₁ .next h
  rw [Heap.get?_update_self _ ho.1 (by rw [mapSeq_reverse]; rfl), mapSeq_reverse]

/-- from here on the newest list stays as it is -/
theorem wss_freeze {x : Str} {a : Addr} {Xs : List V} {ss : List Stmt} {Q : Fl → Env₁ → Store → Prop} (hx : ρ.lookup x = some (.cell a)) (h : Wss g c ((x, .list Xs) :: ρ) σ ss Q) : Wss g c ρ ((a, .list Xs) :: σ) ss Q := by
  intro A h₀ s m oc ob ce fz S P hP
  have cs := S.cs
  cases cs with
  | @cons _ o _ ce₀ _ hc hcs =>
  obtain ⟨S', hc'⟩ := S.freeze
  cases hc' with
  | @list us k _ hrs =>
  have sb : Sub fz ((a, lstO us k) :: fz) := Sub.cons _ _
  refine h A h₀ s m oc ob ce₀ _ (S'.env fun y Y e => ?_) P fun f fl ρ' σ' h' tk' m' oc' ce' fz' S₂ sb₂ rf q => hP f fl ρ' σ' h' tk' m' oc' ce' fz' S₂ (sb.trans sb₂) rf q
  rw [lookup_cons_str] at e
  by_cases hy : y = x
  · rw [if_pos hy] at e
    cases e
    obtain ⟨v, rd, rv⟩ := S'.lr x _ hx
    cases rv
    rw [hy]
    exact ⟨_, rd, .list (.head _) (hrs.mono sb)⟩
  · rw [if_neg hy] at e
    exact S'.lr y Y e

/-- an item of a cell -/
theorem sub_cell {v i : Expr} {a : Addr} {Xs : List V} {k : Int} {j : Nat} {Y : V} {Q : V → Store → Prop} (hl : σ.lookup a = some (.arr Xs)) (hk : k = (j : Int)) (hj : Xs[j]? = some Y) (hb : j < 2 ^ 62) (h : Q Y σ)
    (hs : (match i with | .Slice .. => false | _ => true) = true := by rfl) : Wp g c ρ σ [.cell a, .int k] Rep (op2 (subscriptTail v i)) Q :=
  wp_pure2 fun A h₀ s m oc ob ce fz x y S rx ry P hP => by
    cases ry
    cases rx
    obtain ⟨o, hmo, hco⟩ := S.cs.find hl
    cases hco with
    | @arr _ us n _ hc hd hrs =>
    obtain ⟨u, hu, ru⟩ := hrs.get hj
    have hl' : s.heap.IsList a us.toArray := ⟨_, (S.Nc _ hmo).1, hc, n, hd⟩
    subst hk
    exact tail_any hl'.typeIs slot_list_getitem.lookup (wpAny_getItem_list hl' (by omega) (by omega) (by simpa using hu) (hP u Y s.heap s.toks fz S (Sub.refl _) ru h)) (subscripted_int _ _ _ _ hs)
theorem Reps.set {fz : Led} {v : Value} {X : V} (hv : Rep fz v X) : ∀ {vs : List Value} {Vs : List V}, Reps fz vs Vs → ∀ i, Reps fz (vs.set i v) (Vs.set i X)
  | _, _, .nil, i => by simp; exact .nil
  | _, _, .cons h r, 0 => by simp; exact .cons hv r
  | _, _, .cons h r, i + 1 => by simp; exact .cons h (r.set hv i)
/-- an item of a cell stored -/
theorem set_cell {a : Addr} {Xs : List V} {k : Int} {j : Nat} {Y : V} {Q : Unit → Store → Prop} (hl : σ.lookup a = some (.arr Xs)) (hk : k = (j : Int)) (hj : j < Xs.length) (hb : j < 2 ^ 62) (h : Q () (put σ a (.arr (Xs.set j Y)))) :
    Wp g c ρ σ [.cell a, .int k, Y] EqU (op3 setItem) Q := by
  intro A h₀ s m oc ob ce fz vs S R P hP
  cases R with
  | cons ra R => cases R with
    | cons rb R => cases R with
      | @cons y _ _ _ rc R => cases R with
        | nil =>
    cases rb
    cases ra
    obtain ⟨o, hmo, hco⟩ := S.cs.find hl
    cases hco with
    | @arr _ us n _ hc hd hrs =>
    have hl' : s.heap.IsList a us.toArray := ⟨_, (S.Nc _ hmo).1, hc, n, hd⟩
    subst hk
    refine wpAny_setItem_list hl' (by omega) (by omega) (by rw [List.size_toArray, hrs.length]; omega) fun h' hl₂ hs₂ => ?_
    obtain ⟨o', ho', hc', n', hd'⟩ := hl₂
    have e : us.toArray.setIfInBounds ((j : Nat) : Int).toNat y = (us.set j y).toArray := by simp
    exact hP _ () _ h' s.toks _ fz (S.setCell hmo (.arr hc' (hd'.trans (by rw [e])) (hrs.set rc j)) s.toks ho' hs₂) (Sub.refl _) trivial h

/-! ## instances -/
theorem upd_mid {d : Addr} {o o' : Obj} : ∀ {pre post : Led}, (∀ p ∈ pre, p.1 ≠ d) → (∀ p ∈ post, p.1 ≠ d) → Upd d o o' (pre ++ (d, o) :: post) (pre ++ (d, o') :: post)
  | [], _, _, h => .head h
  | p :: r, _, hp, h => .tail (hp p (.head _)) (upd_mid (fun q hq => hp q (.tail _ hq)) h)
theorem putL_new {fz : Led} {name : Str} {hsh : Int} {t : Tok} {v : Value} {X : V} (hv : Rep fz v X) : ∀ {es : List DictEntry} {fs : List (Str × V)}, Flds fz es fs → fs.lookup name = none → Flds fz (putL name hsh (.str name t) v es) (fs ++ [(name, X)])
  | _, _, .nil, _ => .cons hv .nil
  | _, _, .cons (x := x) (h := hx) (t := tx) (v := u) (es := es) hr hk, e => by
    rw [List.lookup_cons] at e
    by_cases hx' : name = x
    · subst hx'; rw [beq_self_eq_true] at e; cases e
    · rw [beq_eq_false_iff_ne.mpr hx'] at e
      have : (x == name) = false := beq_eq_false_iff_ne.mpr (Ne.symm hx')
      simp only [putL, Value.isStr, this, Bool.false_eq_true, if_false, List.cons_append]
      exact .cons hr (putL_new hv hk e)
theorem Flds.length {fz : Led} : ∀ {es : List DictEntry} {fs : List (Str × V)}, Flds fz es fs → es.length = fs.length
  | _, _, .nil => rfl
  | _, _, .cons _ k => by simp [k.length]
/-- self.name = e, in a __init__ -/
theorem wx_setattr {x attr : Str} {px apos pos : Pos} {e : Expr} {C d : Addr} {fs : List (Str × V)} {Q : Fl → Env₁ → Store → Prop} (hx : ρ.lookup x = some (.obj C d)) (hf : fs.lookup attr = none) (hz : fs.length ≤ 20)
    (h : We g c ρ ((d, .dict fs) :: σ) e fun Y σ' => σ' = (d, .dict fs) :: σ ∧ Q .next ρ ((d, .dict (fs ++ [(attr, Y)])) :: σ))
    (hsa : findIn (hd.heap_1 g.w.params) (.ref C) "__setattr__" = some (some (.builtin "object.__setattr__"))) (hp : plainOver (hd.heap_1 g.w.params) C = true) (ht : takerIn (hd.heap_1 g.w.params) C attr = some none) (hh : hasDictIn (hd.heap_1 g.w.params) C = true)
    (hd' : (x == ("__debug__" : Str)) = false := by decide) (hs : swapsWith e (some (.Attribute (.Name x px) attr apos)) pos.line c.env = pure false := by rfl) :
    Wx g c ρ ((d, .dict fs) :: σ) (.Assign [.Attribute (.Name x px) attr apos] e pos) Q := by
  intro A h₀ s m oc ob ce fz S P hP
  refine plainObj_wpAny_Assign_Attribute ?_ hs
  refine h A h₀ s m oc ob ce fz [] S .nil _ fun y Y σ₁ h₁ tk₁ ce₁ fz₁ S₁ sb₁ ry hq => ?_
  obtain ⟨rfl, hq⟩ := hq
  refine we_name (Q := fun X σ' => X = .obj C d ∧ σ' = (d, .dict fs) :: σ) hx ⟨rfl, rfl⟩ hd' A h₀ _ m oc ob ce₁ fz₁ [] S₁ .nil _ fun v X σ₂ h₂ tk₂ ce₂ fz₂ S₂ sb₂ ra q => ?_
  obtain ⟨rfl, rfl⟩ := q
  cases ra with
  | obj hm =>
  have cs := S₂.cs
  cases cs with
  | cons hc hcs =>
  cases hc with
  | @dict es n _ hfl =>
  rename_i a ce₃
  have ry' := ry.mono sb₂
  have I := InstAt.of_news S₂.N (x := a) (C := C) (dx := d) (od := dictOf es n) (sl := #[]) (by simp [hm]) (by simp)
  have nd := S₂.nd
  simp only [List.map_append, List.map_cons] at nd
  have nd' := (List.nodup_cons.mp ((List.perm_middle.nodup_iff).mp nd)).1
  have n1 : ∀ p ∈ oc ++ ob, p.1 ≠ d := fun p hp e => nd' (by rw [← e]; have := List.mem_map_of_mem (f := (·.1)) hp; simp only [List.map_append] at this; exact List.mem_append.mpr (.inl this))
  have n2 : ∀ p ∈ ce₃ ++ fz₂, p.1 ≠ d := fun p hp e => by
    rcases List.mem_append.mp hp with h | h
    · exact nd' (by rw [← e]; exact List.mem_append.mpr (.inr (List.mem_map_of_mem h)))
    · exact S₂.off (d, dictOf es n) (by simp) p h e.symm
  refine set_dict (es' := putL attr (PyData.keyHash g.w.params attr) (.str attr (tk₂ + 1)) y es) (n' := putN attr es n) S₂.F S₂.cx.X S₂.N I rfl hsa hp ht hh (by rw [hfl.miss hf]; rfl) rfl (upd_mid (pre := oc ++ ob) (post := ce₃ ++ fz₂) n1 n2) ?_ fun h₃ F₃ N₃ => ?_
  · have := (putL_new (fz := fz₂) (hsh := PyData.keyHash g.w.params attr) (t := tk₂ + 1) ry' hfl hf).length
    rw [this, List.length_append]
    simp only [List.length_cons, List.length_nil]
    omega
  · have S₃ : St g c ρ A h₀ { s with heap := h₃, toks := tk₂ + 2 } m oc ob ((d, dictOf (putL attr (PyData.keyHash g.w.params attr) (.str attr (tk₂ + 1)) y es) (putN attr es n)) :: ce₃) fz₂ ((d, .dict (fs ++ [(attr, Y)])) :: σ) :=
      ⟨S₂.cx, S₂.ek, S₂.eg, S₂.eb, F₃, by simpa using N₃, by simpa [List.map_append] using S₂.nd, fun p hp q hq => by
        simp only [List.mem_append, List.mem_cons] at hp
        rcases hp with (h | h) | rfl | h
        · exact S₂.off p (by simp [h]) q hq
        · exact S₂.off p (by simp [h]) q hq
        · exact S₂.off (d, dictOf es n) (by simp) q hq
        · exact S₂.off p (by simp [h]) q hq, .cons (.dict (putL_new ry' hfl hf)) hcs, S₂.lr, S₂.cl⟩
    exact hP _ _ ρ _ h₃ (tk₂ + 2) m oc _ fz₂ S₃ (sb₁.trans sb₂) .next hq

/-- a class with an __init__ of its own, called -/
theorem wc_new {d : Nat} {C fI : Addr} {Vs : List V} {Q : V → Store → Prop} (hm : makesIn (hd.heap_1 g.w.params) C = true) (hi : findIn (hd.heap_1 g.w.params) (.ref C) "__init__" = some (some (.ref fI))) (hf : isFn (hd.heap_1 g.w.params) (.ref fI) = true)
    (h : ∀ dx, Wc g d (.ref fI) ((dx, .dict []) :: σ) (.obj C dx :: Vs) fun X σ' => X = .none ∧ ∃ fs σ₀, σ' = (dx, .dict fs) :: σ₀ ∧ Q (.inst C fs) σ₀) : Wc g (d + 1) (.ref C) σ Vs Q := by
  intro c ρ hle A h₀ s m oc ob ce fz vs S R P hP
  refine make_K S.F S.N S.KX hm hi (beq_iff_eq.mp hf) fun x dx h₁ F₁ N₁ hlt hxd => ?_
  have new : ∀ p ∈ (oc ++ ob) ++ (ce ++ fz), p.1 ≠ dx ∧ p.1 ≠ x := fun p hp => ⟨Nat.ne_of_lt (hlt p hp), Nat.ne_of_lt (Nat.lt_trans (hlt p hp) hxd)⟩
  have sb : Sub fz ((x, insO C dx) :: fz) := Sub.cons _ _
  have S₁ : St g { c with d := d } ρ (A.under (.builtin "type.__call__" ⟨.ref C :: vs, []⟩)) h₀ { s with heap := h₁ } m oc ob ((dx, dictOf [] 0) :: ce) ((x, insO C dx) :: fz) ((dx, .dict []) :: σ) := by
    refine ⟨⟨?_, S.cx.fr, S.cx.kd, S.cx.X, S.cx.T, S.cx.sc, S.cx.hh, ?_, ?_⟩, S.ek, S.eg, S.eb, F₁, fun p hp => N₁ p ?_, ?_, fun p hp q hq => ?_, .cons (.dict .nil) (S.cs.mono sb), S.lr.mono sb, S.cl⟩
    · obtain ⟨A₀, base, outer, B, hA⟩ := S.cx.bel
      exact ⟨A₀, base, outer, B, hA⟩
    · have := S.cx.room
      show A.depth + 1 + d < recursionLimit
      omega
    · have := S.cx.units
      show A.units + 1 + 8 * d < cLine
      omega
    · simp only [List.mem_append, List.mem_cons] at hp ⊢
      rcases hp with (h | h) | (h | h) | h | h
      · simp [h]
      · simp [h]
      · exact .inr (.inl h)
      · simp [h]
      · exact .inl h
      · simp [h]
    · have nd := S.nd
      simp only [List.map_append, List.map_cons] at nd ⊢
      refine (List.perm_middle.nodup_iff).mpr (List.nodup_cons.mpr ⟨fun hm' => ?_, nd⟩)
      have hm'' : dx ∈ (oc ++ ob ++ ce).map (·.1) := by simpa [List.map_append] using hm'
      obtain ⟨p, hp, e⟩ := List.mem_map.mp hm''
      refine (new p ?_).1 e
      simp only [List.mem_append] at hp ⊢
      rcases hp with (h | h) | h <;> simp [h]
    · rcases List.mem_cons.mp hq with rfl | hq
      · simp only [List.mem_append, List.mem_cons] at hp
        rcases hp with (h | h) | rfl | h
        · exact (new p (by simp [h])).2
        · exact (new p (by simp [h])).2
        · exact Nat.ne_of_lt hxd
        · exact (new p (by simp [h])).2
      · simp only [List.mem_append, List.mem_cons] at hp
        rcases hp with (h | h) | rfl | h
        · exact S.off p (by simp [h]) q hq
        · exact S.off p (by simp [h]) q hq
        · exact Ne.symm (new q (by simp [hq])).1
        · exact S.off p (by simp [h]) q hq
  refine codeAny_mono (h dx { c with d := d } ρ (Nat.le_refl _) _ h₀ _ m oc ob _ _ (.ref x :: vs) S₁ (.cons (.obj (.head _)) (R.mono sb)) (fun v s' => v = .none ∧ P (.ref x) s') fun a b σ' h' tk' ce' fz' S' sb' r q => ?_) fun r s' z => ?_
  · obtain ⟨rfl, fs, σ₀, rfl, q⟩ := q
    cases r
    refine ⟨rfl, ?_⟩
    have cs := S'.cs
    cases cs with
    | cons hc hcs =>
    obtain ⟨S₂, hc'⟩ := S'.freeze
    cases hc' with
    | dict hfl =>
    have sb₂ : ∀ o, Sub fz' ((dx, o) :: fz') := fun o => Sub.cons _ _
    refine hP _ (.inst C fs) σ₀ h' tk' _ _ ⟨S.cx, S.ek, S.eg, S.eb, S₂.F, S₂.N, S₂.nd, S₂.off, S₂.cs, S₂.lr, S₂.cl⟩ ((sb.trans sb').trans (sb₂ _)) (.inst (.tail _ (sb' _ (.head _))) (.head _) (hfl.mono (sb₂ _))) q
  · rcases r with e | (v | _ | _ | _) <;> first | exact z | exact z.elim | exact ⟨z.1, z.2⟩
/-- a class without one -/
theorem wc_new0 {d : Nat} {C : Addr} {Q : V → Store → Prop} (hm : makesIn (hd.heap_1 g.w.params) C = true) (hi : findIn (hd.heap_1 g.w.params) (.ref C) "__init__" = some (some (.builtin "object.__init__"))) (h : Q (.inst C []) σ) : Wc g d (.ref C) σ [] Q := by
  intro c ρ hle A h₀ s m oc ob ce fz vs S R P hP
  cases R
  refine make_K0 S.F S.N S.KX hm hi fun x dx h₁ F₁ N₁ hlt hxd => ?_
  have new : ∀ p ∈ (oc ++ ob) ++ (ce ++ fz), p.1 ≠ dx ∧ p.1 ≠ x := fun p hp => ⟨Nat.ne_of_lt (hlt p hp), Nat.ne_of_lt (Nat.lt_trans (hlt p hp) hxd)⟩
  have sb : Sub fz ((x, insO C dx) :: (dx, dictOf [] 0) :: fz) := fun p hp => .tail _ (.tail _ hp)
  refine hP (.ref x) (.inst C []) σ h₁ s.toks ce ((x, insO C dx) :: (dx, dictOf [] 0) :: fz) ⟨S.cx, S.ek, S.eg, S.eb, F₁, fun p hp => N₁ p ?_, S.nd, fun p hp q hq => ?_, S.cs.mono sb, S.lr.mono sb, S.cl⟩ sb (.inst (.head _) (.tail _ (.head _)) .nil) h
  · simp only [List.mem_append, List.mem_cons] at hp ⊢
    rcases hp with (h | h) | h | h | h | h <;> simp [h]
  · have hp' : p ∈ (oc ++ ob) ++ (ce ++ fz) := by
      simp only [List.mem_append] at hp ⊢
      rcases hp with (h | h) | h <;> simp [h]
    rcases List.mem_cons.mp hq with rfl | hq
    · exact (new p hp').2
    · rcases List.mem_cons.mp hq with rfl | hq
      · exact (new p hp').1
      · exact S.off p hp q hq
end
-- W10
section
variable {g : G} {c : Cfg} {ρ : Env₁} {σ : Store}
/-- a turn's end: on, or out to Mid, or back with a value -/
def TurnM (Mid : Env₁ → Store → Prop) (Q : Fl → Env₁ → Store → Prop) (I : Env₁ → Store → Prop) (fl : Fl) (ρ' : Env₁) (σ' : Store) : Prop :=
  match fl with
  | .next => I ρ' σ'
  | .cont => I ρ' σ'
  | .brk => Mid ρ' σ'
  | .ret X => Q (.ret X) ρ' σ'
theorem wss_while {t : Expr} {body rest : List Stmt} {pos : Pos} {Q : Fl → Env₁ → Store → Prop} (J : Nat → Env₁ → Store → Prop) (Mid : Env₁ → Store → Prop) (n₀ : Nat) (h0 : J n₀ ρ σ)
    (turn : ∀ n ρ' σ', J n ρ' σ' → Wt g c ρ' σ' t fun b σ₂ => match b with
      | true => Wss g c ρ' σ₂ body (TurnM Mid Q fun ρ₃ σ₃ => ∃ m, m < n ∧ J m ρ₃ σ₃)
      | false => Mid ρ' σ₂)
    (behind : ∀ ρ' σ', Mid ρ' σ' → Wss g c ρ' σ' rest Q) : Wss g c ρ σ (.While t body [] pos :: rest) Q := by
  refine wss_cons (wx_while J n₀ h0 fun n ρ' σ' hJ => (turn n ρ' σ' hJ).mono fun b σ₂ q => ?_)
  cases b with
  | false => exact behind _ _ q
  | true =>
    refine Ws.mono q fun fl ρ₃ σ₃ z => ?_
    cases fl with
    | next => exact z
    | cont => exact z
    | brk => exact behind _ _ z
    | ret X => exact z
theorem wss_if {t : Expr} {b o rest : List Stmt} {pos : Pos} {Q : Fl → Env₁ → Store → Prop} (Mid : Env₁ → Store → Prop)
    (h : Wt g c ρ σ t fun v σ' => match v with
      | true => Wss g c ρ σ' b fun fl ρ₂ σ₂ => match fl with | .next => Mid ρ₂ σ₂ | fl => Q fl ρ₂ σ₂
      | false => Wss g c ρ σ' o fun fl ρ₂ σ₂ => match fl with | .next => Mid ρ₂ σ₂ | fl => Q fl ρ₂ σ₂)
    (behind : ∀ ρ' σ', Mid ρ' σ' → Wss g c ρ' σ' rest Q) : Wss g c ρ σ (.If t b o pos :: rest) Q := by
  refine wss_cons (wx_if (h.mono fun v σ' q => ?_))
  cases v <;> refine Ws.mono q fun fl ρ₂ σ₂ z => ?_ <;> cases fl <;> first | exact behind _ _ z | exact z
end
-- W11
theorem lookup_skip {x y : Str} {X : V} {ρ : Env₁} {r : Option V} (hn : (y == x) = false) (h : ρ.lookup y = r) : List.lookup y ((x, X) :: ρ) = r := by
  rw [List.lookup_cons, hn]
  exact h
section
variable {g : G} {c : Cfg} {ρ : Env₁} {σ : Store}
/-- a thing's method -/
def Meth (P : Params) (X : V) (name : Str) (f : Addr) : Prop := ∃ C fs, X = .inst C fs ∧ plainGet (hd.heap_1 P) C name = true ∧ findIn (hd.heap_1 P) (.ref C) name = some (some (.ref f)) ∧ isFn (hd.heap_1 P) (.ref f) = true ∧ keepIn (hd.heap_1 P) (.ref f) = true ∧ fs.lookup name = none
theorem we_methI {o : Expr} {name : Str} {apos pos : Pos} {es : List Expr} {pl : Sem Bool} {Q : V → Store → Prop}
    (h : We g c ρ σ o fun X σ₁ => ∃ f, Meth g.w.params X name f ∧ Wl g c ρ σ₁ (backTo pos (starEach es c.env)) fun Xs σ' => Wp g c ρ σ' (X :: Xs) Rep (fun vs => call (.ref f) vs) Q)
    (hs : NoStar (backTo pos (starEach es c.env)) := by first | exact ⟨rfl, rfl⟩ | exact trivial)
    (he : eval (.Call (.Attribute o name apos) es [] pos) c.env = (do
      let ov ← eval o c.env
      standAt apos.atName
      let (f, first) ← holding [ov] (getMethod ov name pl)
      callWith pos f first (backTo pos (starEach es c.env)) []) := by rfl) :
    We g c ρ σ (.Call (.Attribute o name apos) es [] pos) Q := by
  refine we_meth (pl := pl) (h.mono fun X σ₁ q => ?_) hs he
  obtain ⟨f, ⟨C, fs, rfl, a, b, d, e, hl⟩, hw⟩ := q
  refine ⟨.ref f, [.inst C fs], fun A h₀ s m oc ob ce fz v S rv P hP => ?_, fun h X => keeps_K e h X, hw⟩
  cases rv with
  | inst h1 h2 hf =>
    exact method_inst S.F S.cx.X (InstAt.of_news S.Nz h1 h2) a b d (hf.miss hl) (hP [.ref _] s.heap s.toks S (.cons (.inst h1 h2 hf) .nil))
/-- a class's own def, or a static one, called by the class -/
theorem we_methC {x name : Str} {xp apos pos : Pos} {es : List Expr} {C f : Addr} {mc : Value} {pl : Sem Bool} {Q : V → Store → Prop} (e : nsIn (hd.heap_1 g.w.params) mainGlobals x = some (some (.ref C)))
    (hga : specialIn (hd.heap_1 g.w.params) (.ref C) "__getattribute__" = some (some (.builtin "type.__getattribute__"))) (hm : typeIn (hd.heap_1 g.w.params) (.ref C) = some mc) (hr : readsIn (hd.heap_1 g.w.params) C mc = true)
    (hf : findCls (hd.heap_1 g.w.params) (.ref C) mc name = some (.val (.ref f)) ∨ ∃ p rest, findCls (hd.heap_1 g.w.params) (.ref C) mc name = some (.get (.builtin "staticmethod.__get__") (.ref p) .none (.ref C)) ∧ recIn (hd.heap_1 g.w.params) p "staticmethod" = some (.ref f :: rest))
    (hk : keepIn (hd.heap_1 g.w.params) (.ref f) = true)
    (h : Wl g c ρ σ (backTo pos (starEach es c.env)) fun Xs σ' => Wp g c ρ σ' Xs Rep (fun vs => call (.ref f) vs) Q)
    (hx : c.env.kindOf x = some .globalImplicit := by rfl) (hs : NoStar (backTo pos (starEach es c.env)) := by first | exact ⟨rfl, rfl⟩ | exact trivial)
    (he : eval (.Call (.Attribute (.Name x xp) name apos) es [] pos) c.env = (do
      let ov ← eval (.Name x xp) c.env
      standAt apos.atName
      let (f, first) ← holding [ov] (getMethod ov name pl)
      callWith pos f first (backTo pos (starEach es c.env)) []) := by rfl) (hd' : (x == ("__debug__" : Str)) = false := by decide) :
    We g c ρ σ (.Call (.Attribute (.Name x xp) name apos) es [] pos) Q := by
  refine we_meth (pl := pl) (we_glob e ?_ hx hd') hs he
  refine ⟨.ref f, [], fun A h₀ s m oc ob ce fz v S rv P hP => ?_, fun h X => keeps_K hk h X, h⟩
  cases rv
  refine method_of_cls S.F S.cx.X hga ?_
  rcases hf with hf | ⟨p, rest, hf, hp⟩
  · exact cls_val S.F S.cx.X hm hr hf rfl (hP [] s.heap _ (S.toks _) .nil)
  · exact cls_sm S.F S.cx.X hm hr hf hp rfl (hP [] s.heap _ (S.toks _) .nil)
theorem wx_expr {e : Expr} {pos : Pos} {Q : Fl → Env₁ → Store → Prop} (h : We g c ρ σ e fun _ σ' => Q .next ρ σ') (hi : interactive c.env = false := by rfl) (hs : swapsWith e none pos.line c.env = pure false := by rfl) : Wx g c ρ σ (.Expr e pos) Q := by
  intro A h₀ s m oc ob ce fz S P hP
  exact wpAny_Expr_any (h A h₀ s m oc ob ce fz [] S .nil _ fun a X σ₁ h₁ tk₁ ce₁ fz₁ S₁ sb₁ r q => hP _ _ ρ σ₁ h₁ tk₁ m oc ce₁ fz₁ S₁ sb₁ .next q) hi hs
end
-- W12
/-! ## what is walked -/
def busyIters : List String := ["enumerate", "zip", "dict_itemiterator", "dict_reverseitemiterator", "odict_iterator", "itertools.zip_longest", "itertools.pairwise"]
def Quiet (o : Obj) : Prop := ∃ T, o.cls = .type T ∧ busyIters.contains T = false
theorem own_quiet {M : Model} {A : Around} {E : Value → Shared → Prop} {s : Shared} {target : Expr} {I : Addr} {o : Obj} {v : Value} {Q : Unit → Shared → Prop} (ho : s.heap.get? I = some o) (hq : Quiet o) (h : Q () s) :
    wpAny M A (letOwnedTupleGo target (.ref I) v) Q E s := by
  obtain ⟨T, hc, hT⟩ := hq
  have core : ∀ a, wpAny M A (do
      let o ← load I
      match o.cls, o.data with
      | .type n, .fields vs =>
        if ["enumerate", "zip", "dict_itemiterator", "dict_reverseitemiterator", "odict_iterator", "itertools.zip_longest", "itertools.pairwise"].contains n && vs[0]? == some (rawInt a) then
          rule "for.unpacks-the-owned-tuple"
          updateField I 0 .none
      | _, _ => pure ()) Q E s := fun a => by
    refine wpAny_bind (wpAny_load ho ?_)
    rw [hc]
    cases o.data <;> first | exact wpAny_pure h | skip
    dsimp only
    have hT' : (["enumerate", "zip", "dict_itemiterator", "dict_reverseitemiterator", "odict_iterator", "itertools.zip_longest", "itertools.pairwise"].contains T) = false := hT
    rw [hT', Bool.false_and, if_neg (by decide)]
    exact wpAny_pure h
  cases target <;> first
    | exact wpAny_pure h
    | (cases v <;> first | exact wpAny_pure h | exact core _)

/-- what pyIter makes of a value, and its items -/
def Itr (g : G) (X : V) (Ys : List V) : Prop :=
  ∀ (c : Cfg) (ρ : Env₁) (σ : Store) A h₀ s m oc ob ce fz v, St g c ρ A h₀ s m oc ob ce fz σ → Rep fz v X → ∀ P : Value → Shared → Prop,
    (∀ (o : Obj) (fp : List Addr) (Pi : Nat → Value → Prop) (Sti : Nat → Heap → Prop) (tk : Nat), o.isFreed = false → Walks PG g.w A s.heap.objs.size fp [s.heap.objs.size] Ys.length Pi Sti → Sti 0 (s.heap.push o) →
      (∀ b ∈ fp, b = s.heap.objs.size ∨ ∃ p ∈ fz, p.1 = b) → (∀ i h, Sti i h → ∃ o, h.get? s.heap.objs.size = some o ∧ Quiet o) → (∀ i u, Pi i u → ∃ Y, Ys[i]? = some Y ∧ Rep fz u Y) → P (.ref s.heap.objs.size) { s with heap := s.heap.push o, toks := tk }) →
    wpAny (model PG g.w) A (pyIter v) P (fun _ _ => False) s
theorem itr_list (g : G) (Xs : List V) : Itr g (.list Xs) Xs := by
  intro c ρ σ A h₀ s m oc ob ce fz v S R P hP
  cases R with
  | @list l vs n _ hm hr =>
  have hl : s.heap.IsList l vs.toArray := ⟨_, (S.Nz _ hm).1, rfl, n, rfl⟩
  have hlI : l ≠ s.heap.objs.size := Nat.ne_of_lt (Heap.lt_size (S.Nz _ hm).1)
  refine wpAny_pyIter_list hl ?_
  have W := Walks.list (prog := PG) (w := g.w) S.cx.hh s.heap.objs.size l hlI vs.toArray
  have el : vs.toArray.size = Xs.length := by rw [List.size_toArray, hr.length]
  rw [el] at W
  refine hP _ _ _ _ s.toks rfl W ⟨⟨_, Heap.get?_push_size _ rfl, rfl, rfl⟩, ⟨_, Heap.get?_push_of_some _ (S.Nz _ hm).1, rfl, n, rfl⟩⟩ (fun b hb => ?_) (fun i h hst => hst.1.elim fun o ho => ⟨o, ho.1, _, ho.2.1, by decide⟩) fun i u hu => ?_
  · rcases List.mem_cons.mp hb with e | e
    · exact .inl e
    · rw [List.mem_singleton.mp e]; exact .inr ⟨_, hm, rfl⟩
  · have hu' : vs[i]? = some u := by simpa using hu
    have hlt : i < Xs.length := by
      rw [← hr.length]
      exact (List.getElem?_eq_some_iff.mp hu').1
    have hY : Xs[i]? = some Xs[i] := by simp [hlt]
    obtain ⟨u', h1, h2⟩ := hr.get hY
    rw [hu'] at h1
    cases h1
    exact ⟨_, hY, h2⟩
theorem itr_tup (g : G) (Xs : List V) : Itr g (.tup Xs) Xs := by
  intro c ρ σ A h₀ s m oc ob ce fz v S R P hP
  cases R with
  | @tup l vs n _ hm hr =>
  have hl : s.heap.IsTuple l vs.toArray := ⟨_, (S.Nz _ hm).1, rfl, n, rfl⟩
  have hlI : l ≠ s.heap.objs.size := Nat.ne_of_lt (Heap.lt_size (S.Nz _ hm).1)
  refine wpAny_pyIter_tuple hl ?_
  have W := Walks.tuple (prog := PG) (w := g.w) S.cx.hh s.heap.objs.size l hlI vs.toArray
  have el : vs.toArray.size = Xs.length := by rw [List.size_toArray, hr.length]
  rw [el] at W
  refine hP _ _ _ _ s.toks rfl W ⟨⟨_, Heap.get?_push_size _ rfl, rfl, rfl⟩, ⟨_, Heap.get?_push_of_some _ (S.Nz _ hm).1, rfl, n, rfl⟩⟩ (fun b hb => ?_) (fun i h hst => hst.1.elim fun o ho => ⟨o, ho.1, _, ho.2.1, by decide⟩) fun i u hu => ?_
  · rcases List.mem_cons.mp hb with e | e
    · exact .inl e
    · rw [List.mem_singleton.mp e]; exact .inr ⟨_, hm, rfl⟩
  · have hu' : vs[i]? = some u := by simpa using hu
    have hlt : i < Xs.length := by
      rw [← hr.length]
      exact (List.getElem?_eq_some_iff.mp hu').1
    have hY : Xs[i]? = some Xs[i] := by simp [hlt]
    obtain ⟨u', h1, h2⟩ := hr.get hY
    rw [hu'] at h1
    cases h1
    exact ⟨_, hY, h2⟩

section
variable {g : G} {c : Cfg} {ρ : Env₁} {σ : Store} {A : Around} {h₀ : Heap} {s : Shared} {m : Str → Option Value} {oc ob ce fz : Led}

theorem St.extBut (S : St g c ρ A h₀ s m oc ob ce fz σ) {h' : Heap} (tk : Nat) (hk : Heap.ExtBut s.heap.objs.size s.heap h') : St g c ρ A h₀ { s with heap := h', toks := tk } m oc ob ce fz σ :=
  S.keeps tk fun b o e => hk b o (Nat.ne_of_lt (Heap.lt_size e)) e

theorem nsObj_same {o : Obj} {m₁ m₂ : Str → Option Value} (h : LCg.NsObj o m₁) (k : LCg.NsObj o m₂) : m₁ = m₂ := by
  obtain ⟨es, ep, a, b, d⟩ := h
  obtain ⟨es', ep', a', b', d'⟩ := k
  rw [a] at a'
  cases a'
  funext x
  rw [← d, ← d']

/-- the comprehension's own names turned -/
theorem St.turnNs {o o' : Obj} {h' : Heap} {x : Str} {v : Value} {X : V} {m₂ : Str → Option Value} (S : St g c ρ A h₀ s m oc ((c.env.locals, o) :: ob) ce fz σ) (tk : Nat) (ho : h'.get? c.env.locals = some o') (hs : Heap.SameBut c.env.locals s.heap h')
    (n : LCg.NsObj o m₂) (n' : LCg.NsObj o' fun z => if z = x then some v else m₂ z) (hk : c.env.kindOf x = some .local) (rv : Rep fz v X) :
    St g c ((x, X) :: ρ) A h₀ { s with heap := h', toks := tk } m oc ((c.env.locals, o') :: ob) ce fz σ := by
  have z := S.N (c.env.locals, o) (by simp)
  have nd := S.nd
  have ne : ∀ p ∈ oc ++ ob ++ ce, p.1 ≠ c.env.locals := by
    simp only [List.map_append, List.map_cons, List.append_assoc, List.cons_append] at nd
    have nd' := List.nodup_cons.mp ((List.perm_middle.nodup_iff).mp nd)
    exact fun p hp e => nd'.1 (by rw [← e]; have := List.mem_map_of_mem (f := (·.1)) hp; simpa [List.map_append] using this)
  have keep : ∀ p ∈ (oc ++ ob) ++ (ce ++ fz), h'.get? p.1 = some p.2 ∧ p.1 ≠ c.fenv.locals ∧ h₀.get? p.1 = none := fun p hp => by
    have hm : p ∈ (oc ++ ((c.env.locals, o) :: ob)) ++ (ce ++ fz) := by
      simp only [List.mem_append, List.mem_cons] at hp ⊢
      rcases hp with (h | h) | h | h <;> simp [h]
    refine ⟨(hs.2 _ ?_).trans (S.N p hm).1, (S.N p hm).2⟩
    simp only [List.mem_append] at hp
    rcases hp with (h | h) | h | h
    · exact ne p (by simp [h])
    · exact ne p (by simp [h])
    · exact ne p (by simp [h])
    · exact fun e => S.off (c.env.locals, o) (by simp) p h e.symm
  have F' : Fr h₀ c.fenv.locals h' m := S.F.change hs z.2.1 z.2.2
  refine ⟨S.cx, S.ek, S.eg, S.eb, F', fun p hp => ?_, ?_, fun p hp q hq => ?_, S.cs, fun y Y e => ?_, S.cl⟩
  · by_cases hpI : p = (c.env.locals, o')
    · subst hpI; exact ⟨ho, z.2⟩
    · refine keep p ?_
      simp only [List.mem_append, List.mem_cons] at hp ⊢
      rcases hp with (h | h | h) | h | h <;> first | (exact absurd h hpI) | simp [h]
  · simpa [List.map_append] using nd
  · simp only [List.mem_append, List.mem_cons] at hp
    rcases hp with (h | rfl | h) | h
    · exact S.off p (by simp [h]) q hq
    · exact S.off (c.env.locals, o) (by simp) q hq
    · exact S.off p (by simp [h]) q hq
    · exact S.off p (by simp [h]) q hq
  · rw [lookup_cons_str] at e
    by_cases hy : y = x
    · rw [if_pos hy] at e
      cases e
      exact ⟨v, .cmp (by rw [hy]; exact hk) (.head _) n' (by rw [if_pos hy]), rv⟩
    · rw [if_neg hy] at e
      obtain ⟨u, rd, ru⟩ := S.lr y Y e
      refine ⟨u, ?_, ru⟩
      cases rd with
      | loc a b d => exact absurd a (fun e => z.2.1 e)
      | cel a b d e' => exact .cel a b d e'
      | @cmp o₃ m₃ a b d e' =>
        have : o₃ = o := by
          have := (S.N (c.env.locals, o₃) (by simp only [List.mem_append]; exact .inl (.inr b))).1
          rw [z.1] at this
          exact (Option.some.inj this).symm
        subst this
        have em := nsObj_same d n
        subst em
        exact .cmp a (.head _) n' (by rw [if_neg hy]; exact e')
end

/-! ## a comprehension's own trees -/
def Wu (g : G) (c : Cfg) (ρ : Env₁) (σ : Store) (Vs : List V) (t : List Value → Sem Unit) (Q : Env₁ → Store → Prop) : Prop :=
  ∀ A h₀ s m oc ob oC m₂ ce fz vs, St g c ρ A h₀ s m oc ((c.env.locals, oC) :: ob) ce fz σ → LCg.NsObj oC m₂ → Reps fz vs Vs → ∀ P : Unit → Shared → Prop,
    (∀ ρ' σ' h' tk' oC' m₂' ce' fz', St g c ρ' A h₀ { s with heap := h', toks := tk' } m oc ((c.env.locals, oC') :: ob) ce' fz' σ' → LCg.NsObj oC' m₂' → Sub fz fz' → Q ρ' σ' → P () { s with heap := h', toks := tk' }) →
    wpAny (model PG g.w) A (t vs) P (fun _ _ => False) s
section
variable {g : G} {c : Cfg} {ρ : Env₁} {σ : Store}
theorem Wu.mono {Vs : List V} {t : List Value → Sem Unit} {Q Q' : Env₁ → Store → Prop} (h : Wu g c ρ σ Vs t Q) (k : ∀ ρ' σ', Q ρ' σ' → Q' ρ' σ') : Wu g c ρ σ Vs t Q' :=
  fun A h₀ s m oc ob oC m₂ ce fz vs S n R P hP => h A h₀ s m oc ob oC m₂ ce fz vs S n R P fun ρ' σ' h' tk' oC' m₂' ce' fz' S' n' sb q => hP ρ' σ' h' tk' oC' m₂' ce' fz' S' n' sb (k _ _ q)
/-- one name bound -/
theorem wu_store {x : Str} {v : Value} {X : V} {A : Around} {h₀ : Heap} {s : Shared} {m : Str → Option Value} {oc ob ce fz : Led} {oC : Obj} {m₂ : Str → Option Value} {P : Unit → Shared → Prop}
    (S : St g c ρ A h₀ s m oc ((c.env.locals, oC) :: ob) ce fz σ) (n : LCg.NsObj oC m₂) (hk : c.env.kindOf x = some .local) (rv : Rep fz v X)
    (h : ∀ h' tk' oC' m₂', St g c ((x, X) :: ρ) A h₀ { s with heap := h', toks := tk' } m oc ((c.env.locals, oC') :: ob) ce fz σ → LCg.NsObj oC' m₂' → P () { s with heap := h', toks := tk' }) :
    wpAny (model PG g.w) A (storeName c.env x v) P (fun _ _ => False) s := by
  have z := S.N (c.env.locals, oC) (by simp)
  refine wpAny_storeName_local hk (n.ns z.1) (fun h' hn hs => ?_) (by rw [S.ek]; rfl)
  obtain ⟨o', ho', n'⟩ := LCg.ns_obj hn
  exact h h' _ o' _ (S.turnNs _ ho' hs n n' hk rv) n'
theorem wu_name {x : Str} {px : Pos} {X : V} {Q : Env₁ → Store → Prop} (hk : c.env.kindOf x = some .local) (h : Q ((x, X) :: ρ) σ) : Wu g c ρ σ [X] (op1 (assign (.Name x px) c.env)) Q := by
  intro A h₀ s m oc ob oC m₂ ce fz vs S n R P hP
  cases R with
  | cons ra R => cases R with
    | nil => exact wpAny_assign_Name (wu_store S n hk ra fun h' tk' oC' m₂' S' n' => hP _ _ h' tk' oC' m₂' ce fz S' n' (Sub.refl _) h)
theorem wu_tup2 {x y : Str} {px py pos : Pos} {k : Nat} {X Y : V} {Q : Env₁ → Store → Prop} (hx : c.env.kindOf x = some .local) (hy : c.env.kindOf y = some .local) (h : Q ((y, Y) :: (x, X) :: ρ) σ) :
    Wu g c ρ σ [.tup [X, Y]] (op1 (assign (.Tuple [.Name x px, .Name y py] k pos) c.env)) Q := by
  intro A h₀ s m oc ob oC m₂ ce fz vs S n R P hP
  cases R with
  | cons ra R => cases R with
    | nil => cases ra with
      | @tup a vs _ _ hm hr =>
      cases hr with
      | cons r1 hr => cases hr with
        | cons r2 hr => cases hr with
          | nil =>
          rename_i v1 v2
          have hl : IsTup s.heap a #[v1, v2] := ⟨_, (S.Nz _ hm).1, rfl, _, rfl⟩
          show wpAny _ _ (assign (.Tuple [.Name x px, .Name y py] k pos) c.env (.ref a)) _ _ s
          refine assign_Tuple_tuple S.cx.hh hl rfl rfl fun h₁ he => ?_
          have S₁ := S.extBut s.toks he
          show wpAny _ _ (assignInOrder [assign (.Name x px) c.env, assign (.Name y py) c.env] [v1, v2]) _ _ _
          refine assignInOrder_cons (wpAny_assign_Name (wu_store S₁ n hx r1 fun h' tk' oC' m₂' S' n' => ?_))
          refine assignInOrder_cons (wpAny_assign_Name (wu_store S' n' hy r2 fun h' tk' oC' m₂' S' n' => ?_))
          exact assignInOrder_nil (hP _ _ h' tk' oC' m₂' ce fz S' n' (Sub.refl _) h)

/-- a comprehension's tests -/
abbrev Wts (g : G) (c : Cfg) (ρ : Env₁) (σ : Store) (ifs : List Expr) (Q : Bool → Store → Prop) : Prop :=
  Wp g c ρ σ [] EqB (fun _ => forIn ifs true fun t r => if r = true then do let ok ← isTrue t c.env (eval t c.env); pure (ForInStep.yield ok) else pure (ForInStep.yield r)) Q
theorem wts_nil {Q : Bool → Store → Prop} (h : Q true σ) : Wts g c ρ σ [] Q :=
  fun A h₀ s m oc ob ce fz vs S R P hP => wpAny_pure (hP _ _ σ s.heap s.toks ce fz S (Sub.refl _) rfl h)
theorem wts_one {t : Expr} {Q : Bool → Store → Prop} (h : Wt g c ρ σ t Q) : Wts g c ρ σ [t] Q :=
  fun A h₀ s m oc ob ce fz vs S R P hP => wpAny_tests_one (h A h₀ s m oc ob ce fz vs S R P hP)

/-- an item put behind the list under way -/
theorem wu_emit {elt : Expr} {D : Addr} {acc : List V} {Q : Env₁ → Store → Prop} (h : We g c ρ σ elt fun X σ' => σ'.lookup D = some (.list acc) ∧ acc.length ≤ 2 ^ 20 ∧ Q ρ (put σ' D (.list (acc ++ [X])))) :
    Wu g c ρ σ [] (fun _ => do let _ ← call (.builtin "list.append") [.ref D, ← eval elt c.env]) Q := by
  intro A h₀ s m oc ob oC m₂ ce fz vs S n R P hP
  show wpAny _ _ (eval elt c.env >>= fun x => call (.builtin "list.append") [.ref D, x] >>= fun _ => pure ()) _ _ s
  refine wpAny_bind (h A h₀ s m oc _ ce fz [] S .nil _ fun y Y σ₂ h₂ tk₂ ce₂ fz₂ S₂ sb₂ ry ⟨hl, hz, hq⟩ => ?_)
  obtain ⟨o₂, hmo₂, hco₂⟩ := S₂.cs.find hl
  cases hco₂ with
  | @list us k _ hrs₂ =>
  refine wpAny_bind (append_at (its := us.toArray) (n := k) (S₂.Nc _ hmo₂).1 (fun h₃ hs₃ ho₃ => ?_) (by rw [List.size_toArray, hrs₂.length, sizeLine_eq]; omega))
  have S₃ := S₂.setCell (o' := lstO (us ++ [y]) (k + 1)) hmo₂ (CelRep.list (hrs₂.append (.cons ry .nil))) tk₂ (by rw [ho₃]; simp) hs₃
  exact wpAny_pure (hP _ _ h₃ tk₂ oC m₂ _ fz₂ S₃ n sb₂ hq)

/-- a clause's loop -/
theorem wu_loop {elt : Expr} {gens : List Comprehension} {scope : Scope} {pos : Pos} {depth : Nat} {acc : Value} {target : Expr} {ifs : List Expr} {pit : Pos} {rest : Sem Unit} {Ys : List V} (J : Nat → Env₁ → Store → Prop) {R : Result → Shared → Prop}
    (hturn : ∀ it, compTurn (.ListComp elt gens scope pos) depth it acc c.env = (do
      standAt pit
      match ← pyNext it with
      | none => pure (.done .next)
      | some v =>
        letOwnedTupleGo target it v
        assign target c.env v
        let mut ok := true
        for t in ifs do
          if ok then ok ← isTrue t c.env (eval t c.env)
        if ok then rest
        again (.compLoop (.ListComp elt gens scope pos) depth it acc c.env)))
    (turn : ∀ i Y ρ' σ', Ys[i]? = some Y → J i ρ' σ' → Wu g c ρ' σ' [Y] (op1 (assign target c.env)) fun ρ₂ σ₂ => Wts g c ρ₂ σ₂ ifs fun b σ₃ => match b with | true => Wu g c ρ₂ σ₃ [] (fun _ => rest) (J (i + 1)) | false => J (i + 1) ρ₂ σ₃)
    {A : Around} {h₀ : Heap} {s : Shared} {m : Str → Option Value} {oc ob ce fz : Led} {I : Addr} {oI oC : Obj} {m₂ : Str → Option Value} {fp : List Addr} {Pi : Nat → Value → Prop} {Sti : Nat → Heap → Prop}
    (S : St g c ρ A h₀ s m oc ((c.env.locals, oC) :: (I, oI) :: ob) ce fz σ) (n : LCg.NsObj oC m₂) (W : Walks PG g.w A I fp [I] Ys.length Pi Sti) (h0 : Sti 0 s.heap) (hfp : ∀ b ∈ fp, b = I ∨ ∃ p ∈ fz, p.1 = b)
    (hSt : ∀ i h, Sti i h → ∃ o, h.get? I = some o ∧ Quiet o) (hPi : ∀ i u, Pi i u → ∃ Y, Ys[i]? = some Y ∧ Rep fz u Y) (hJ : J 0 ρ σ)
    (hR : ∀ ρ' σ' h' tk' oC' m₂' ce' fz', St g c ρ' A h₀ { s with heap := h', toks := tk' } m oc ((c.env.locals, oC') :: ob) ce' fz' σ' → LCg.NsObj oC' m₂' → Sub fz fz' → J Ys.length ρ' σ' → R (.ok .next) { s with heap := h', toks := tk' }) :
    codeAny (model PG g.w) A (.compLoop (.ListComp elt gens scope pos) depth (.ref I) acc c.env) R s := by
  have hIC : c.env.locals ≠ I := by
    have nd := S.nd
    simp only [List.map_append, List.map_cons, List.append_assoc, List.cons_append] at nd
    have nd' := (List.nodup_cons.mp ((List.perm_middle.nodup_iff).mp nd)).1
    exact fun e => nd' (by simp [e])
  refine codeAny_loop rfl (fun k s' => ∃ i h' tk' ρ' σ' oC' m₂' ce' fz' o, s' = { s with heap := h', toks := tk' } ∧ i ≤ Ys.length ∧ k = Ys.length + 1 - i ∧ St g c ρ' A h₀ s' m oc ((c.env.locals, oC') :: (I, o) :: ob) ce' fz' σ' ∧ LCg.NsObj oC' m₂' ∧ Sti i h' ∧ Sub fz fz' ∧ J i ρ' σ') ?_ (Ys.length + 1) ?_
  · rintro k s' ⟨i, h', tk', ρ', σ', oC', m₂', ce', fz', o, rfl, hi, rfl, S', n', hst, sb', hJ'⟩
    show wpAny _ A ((compTurn (.ListComp elt gens scope pos) depth (.ref I) acc c.env).onRaise (fun x => do noteFrame x c.env; theTreesLotGoes x)) _ _ _
    refine wpAny_noted ?_
    rw [hturn]
    refine wpAny_bind (wpAny_standAt (wpAny_bind ?_))
    have Sw := S'.perm (List.Perm.swap _ _ _)
    by_cases hlt : i < Ys.length
    · refine W.item i _ _ _ hlt hst fun v h₂ tk₂ hv st₂ hk₂ => ?_
      obtain ⟨Y, hY, ru⟩ := hPi i v hv
      obtain ⟨o₂, ho₂, hq₂⟩ := hSt _ _ st₂
      have S₂ := (Sw.turn hIC tk₂ ho₂ fun b o' hb e => hk₂ b o' (by simpa using hb) e).perm (List.Perm.swap _ _ _)
      have frame : ∀ {j : Nat} {ρ'' σ'' h'' tk'' oC'' m₂'' ce'' fz''} {h₃ : Heap}, Sti j h₃ → h₃.get? I = some o₂ → (∀ p ∈ fz, h₃.get? p.1 = some p.2) → St g c ρ'' A h₀ { s with heap := h'', toks := tk'' } m oc ((c.env.locals, oC'') :: (I, o₂) :: ob) ce'' fz'' σ'' → LCg.NsObj oC'' m₂'' → Sub fz' fz'' → Sti j h'' := by
        intro j ρ'' σ'' h'' tk'' oC'' m₂'' ce'' fz'' h₃ hst₃ hI₃ hz₃ S'' _ sb''
        refine W.frame _ _ _ hst₃ fun b hb o' e => ?_
        rcases hfp b hb with rfl | ⟨p, hp, rfl⟩
        · rw [hI₃] at e
          cases e
          exact (S''.N (b, o₂) (by simp)).1
        · rw [hz₃ p hp] at e
          cases e
          exact (S''.Nz _ (sb'' _ (sb' _ hp))).1
      have hz₂ : ∀ p ∈ fz, h₂.get? p.1 = some p.2 := fun p hp => (S₂.Nz _ (sb' _ hp)).1
      refine wpAny_bind (own_quiet ho₂ hq₂ ?_)
      refine wpAny_bind (no_err (turn i Y ρ' σ' hY hJ' A h₀ _ m oc ((I, o₂) :: ob) oC' m₂' ce' fz' [v] S₂ n' (.cons (ru.mono sb') .nil) _ fun ρ₃ σ₃ h₃ tk₃ oC₃ m₃ ce₃ fz₃ S₃ n₃ sb₃ q => ?_) fun _ _ h => h)
      refine wpAny_bind (no_err (q A h₀ _ m oc _ ce₃ fz₃ [] S₃ .nil _ fun a b σ₄ h₄ tk₄ ce₄ fz₄ S₄ sb₄ e q => ?_) fun _ _ h => h)
      cases e
      cases a with
      | false =>
        exact wpAny_pure ⟨rfl, Ys.length + 1 - (i + 1), by omega, i + 1, h₄, tk₄, ρ₃, σ₄, oC₃, m₃, ce₄, fz₄, o₂, rfl, hlt, rfl, S₄, n₃, frame st₂ ho₂ hz₂ S₄ n₃ (sb₃.trans sb₄), sb'.trans (sb₃.trans sb₄), q⟩
      | true =>
        refine wpAny_bind (no_err (q A h₀ _ m oc ((I, o₂) :: ob) oC₃ m₃ ce₄ fz₄ [] S₄ n₃ .nil _ fun ρ₅ σ₅ h₅ tk₅ oC₅ m₅ ce₅ fz₅ S₅ n₅ sb₅ q => ?_) fun _ _ h => h)
        exact wpAny_pure ⟨rfl, Ys.length + 1 - (i + 1), by omega, i + 1, h₅, tk₅, ρ₅, σ₅, oC₅, m₅, ce₅, fz₅, o₂, rfl, hlt, rfl, S₅, n₅, frame st₂ ho₂ hz₂ S₅ n₅ ((sb₃.trans sb₄).trans sb₅), sb'.trans ((sb₃.trans sb₄).trans sb₅), q⟩
    · have hie : i = Ys.length := by omega
      subst hie
      refine W.done _ _ _ hst fun h₂ tk₂ hk₂ => ?_
      exact wpAny_pure (hR ρ' σ' h₂ tk₂ oC' m₂' ce' fz' (Sw.forget hIC tk₂ fun b o' hb e => hk₂ b o' (by simpa using hb) e) n' sb' hJ')
  · exact ⟨0, s.heap, s.toks, ρ, σ, oC, m₂, ce, fz, oI, rfl, Nat.zero_le _, rfl, S, n, h0, Sub.refl _, hJ⟩
end
-- W13
theorem codeAny_compStart_at {prog : Program} {w : World} {A : Around} {R : Result → Shared → Prop} {s : Shared} {elt : Expr} {gens : List Comprehension} {scope : Scope} {pos : Pos} {depth : Nat} {it acc : Value} {env : Env} {gd : Comprehension}
    (hg : gens[depth]? = some gd) (ha : gd.is_async = 0)
    (h0 : codeAny (model prog w) A (.compLoop (.ListComp elt gens scope pos) depth it acc env) R s)
    (h : wpAny (model prog w) A (pyIter it) (fun it' s' => codeAny (model prog w) A (.compLoop (.ListComp elt gens scope pos) depth it' acc env) R s')
      (notedBy (model prog w) A env fun x s' => R (.error x) s') s) :
    codeAny (model prog w) A (.compStart (.ListComp elt gens scope pos) depth it acc env) R s := by
  refine codeAny_of_tree ?_
  show wpAny _ _ ((compStart (.ListComp elt gens scope pos) depth it acc env).onRaise (fun x => do noteFrame x env; standAt theWindowsPlace)) _ _ s
  refine wpAny_notedAt ?_
  unfold compStart
  have e : (clausesOf (.ListComp elt gens scope pos))[depth]? = some gd := hg
  rw [e]
  simp only [Option.elim, ha, bne_self_eq_false, Bool.false_eq_true, if_false]
  show wpAny _ _ (ask >>= _) _ _ s
  refine wpAny_bind (wpAny_askSetting (wpAny_ite ?_))
  split
  · first
      | exact wpAny_bind (wpAny_pure (wpAny_pure (And.intro rfl h0)))
      | exact wpAny_pure (And.intro rfl h0)
  · first
      | exact wpAny_bind (wpAny_rule (wpAny_bind (wpAny_standAt (wpAny_bind (wpAny_mono h (fun it' s' h' => wpAny_pure (And.intro rfl h')) fun _ _ x => x)))))
      | (refine wpAny_bind (wpAny_rule ?_); show wpAny _ _ (standAt gd.iter.pos >>= _) _ _ s; exact wpAny_bind (wpAny_standAt (wpAny_bind (wpAny_mono h (fun it' s' h' => wpAny_pure (And.intro rfl h')) fun _ _ x => x))))

section
variable {g : G} {c : Cfg} {ρ : Env₁} {σ : Store}

theorem St.outer {c' : Cfg} {ρ' : Env₁} {σ' : Store} {A : Around} {h₀ : Heap} {s s' : Shared} {m : Str → Option Value} {oc ob ob' ce ce' fz fz' : Led} (S : St g c ρ A h₀ s m oc ob ce fz σ) (S' : St g c' ρ' A h₀ s' m oc ob' ce' fz' σ')
    (hf : c'.fenv = c.fenv) (hob : ∀ p ∈ ob, p ∈ ob') (sb : Sub fz fz') : St g c ρ A h₀ s' m oc ob' ce' fz' σ' := by
  refine ⟨S.cx, S.ek, S.eg, S.eb, hf ▸ S'.F, hf ▸ S'.N, S'.nd, S'.off, S'.cs, fun x X e => ?_, S.cl⟩
  obtain ⟨v, rd, r⟩ := S.lr x X e
  refine ⟨v, ?_, r.mono sb⟩
  cases rd with
  | loc a b d => exact .loc a b d
  | cel a b d e' => exact .cel a b d e'
  | cmp a b d e' => exact .cmp a (hob _ b) d e'

/-- what a comprehension's frame stands on -/
abbrev cc (c : Cfg) (scope : Scope) (cl : List (Str × Addr)) (C : Addr) : Cfg := ⟨c.d, c.fenv, compEnvC scope cl C c.env⟩

/-- a comprehension's walk, from its first source -/
structure Walk (g : G) (c : Cfg) (elt : Expr) (target : Expr) (iter : Expr) (ifs : List Expr) (gs : List Comprehension) (scope : Scope) (pos : Pos) (cl : List (Str × Addr)) (ρc : Env₁) (X : V) (σ : Store) (Q : V → Store → Prop) : Prop where
  go : ∃ Ys, Itr g X Ys ∧ ∀ C D, D ∉ σ.map (·.1) → ∃ (J : Nat → Env₁ → Store → Prop) (rest : Sem Unit),
    (∀ it, compTurn (.ListComp elt (⟨target, iter, ifs, 0⟩ :: gs) scope pos) 0 it (.ref D) (compEnvC scope cl C c.env) = (do
      standAt iter.pos
      match ← pyNext it with
      | none => pure (.done .next)
      | some v =>
        letOwnedTupleGo target it v
        assign target (compEnvC scope cl C c.env) v
        let mut ok := true
        for t in ifs do
          if ok then ok ← isTrue t (compEnvC scope cl C c.env) (eval t (compEnvC scope cl C c.env))
        if ok then rest
        again (.compLoop (.ListComp elt (⟨target, iter, ifs, 0⟩ :: gs) scope pos) 0 it (.ref D) (compEnvC scope cl C c.env)))) ∧
    J 0 ρc ((D, .list []) :: σ) ∧
    (∀ i Y ρ' σ', Ys[i]? = some Y → J i ρ' σ' → Wu g (cc c scope cl C) ρ' σ' [Y] (op1 (assign target (compEnvC scope cl C c.env))) fun ρ₂ σ₂ => Wts g (cc c scope cl C) ρ₂ σ₂ ifs fun b σ₃ => match b with | true => Wu g (cc c scope cl C) ρ₂ σ₃ [] (fun _ => rest) (J (i + 1)) | false => J (i + 1) ρ₂ σ₃) ∧
    ∀ ρ' σ', J Ys.length ρ' σ' → ∃ Zs σ₂, σ' = (D, .list Zs) :: σ₂ ∧ Q (.list Zs) σ₂

/-- how a comprehension's names lie -/
structure Lies (c : Cfg) (scope : Scope) (cl : List (Str × Addr)) (ρ ρc : Env₁) : Prop where
  clos : closureFor scope c.env = pure cl
  cell : ∀ y ∈ scope.names, y.2 ≠ .cell
  kind : scope.kind = .function
  names : ∀ y ∈ scope.names, y.2 = .local → scope.names.lookup y.1 = some .local
  cap : ∀ x X, ρc.lookup x = some X → ρ.lookup x = some X ∧ (relabel scope c.env).names.lookup x = some .cell ∧ c.env.kindOf x = some .cell ∧ cl.lookup x = c.env.cells.lookup x

theorem comp_core {elt target iter : Expr} {ifs : List Expr} {gs : List Comprehension} {scope : Scope} {pos : Pos} {cl : List (Str × Addr)} {ρc : Env₁} {Q : V → Store → Prop} {use : Option (Value → Sem Unit)} {PP : Value → Shared → Prop} {npos : Pos}
    (L : Lies c scope cl ρ ρc) (h : We g c ρ σ iter fun X σ₁ => Walk g c elt target iter ifs gs scope pos cl ρc X σ₁ Q) (he : c.env = c.fenv) (hs : ∀ x, foldedSetIterable iter c.env x = pure x)
    {A : Around} {h₀ : Heap} {s : Shared} {m : Str → Option Value} {oc ob ce fz : Led} (S : St g c ρ A h₀ s m oc ob ce fz σ)
    (hP : ∀ C oC D Zs σ' h' tk' ce' fz', St g c ρ A h₀ { s with heap := h', toks := tk' } m oc ((C, oC) :: ob) ce' fz' σ' → (∃ m₂, LCg.NsObj oC m₂) → Sub fz fz' → Rep fz' (.ref D) (.list Zs) → Q (.list Zs) σ' → compPost (model PG g.w) A (fun _ _ => False) use PP (.ref D) C (.ok .next) { s with heap := h', toks := tk' }) :
    wpAny (model PG g.w) A (comprehension (.ListComp elt (⟨target, iter, ifs, 0⟩ :: gs) scope pos) scope c.env npos (newList []) false (eval iter c.env) use) PP (fun _ _ => False) s := by
  refine wpAny_comprehension_free (use := use) rfl hs L.clos L.kind L.names (h A h₀ s m oc ob ce fz [] S .nil _ fun xv X σ₁ h₁ tk₁ ce₁ fz₁ S₁ sb₁ rx w => ?_)
  obtain ⟨Ys, hit, w⟩ := w.go
  refine hit c ρ σ₁ A h₀ _ m oc ob ce₁ fz₁ xv S₁ rx _ fun oI fp Pi Sti tk₂ hfI W h0 hfp hSt hPi => ?_
  have S₂ := S₁.addOb oI hfI tk₂
  generalize hI : h₁.objs.size = I at *
  refine wpAny_newObj_type ?_
  have hD := fresh_cell S₂
  have S₃ := S₂.newCell (o := lstO [] 0) (x := .list []) rfl (.list .nil) tk₂
  refine wpAny_newFunctionEnv L.cell (by intro y hy; simp at hy) (fun h₄ hns₄ hsb₄ => ?_) L.kind
  have S₄ := S₃.addOb { cls := .type "dict", data := .dict #[] } rfl tk₂
  have hC := S₄.ownNe he
  obtain ⟨oC, hoC, nC⟩ := LCg.ns_obj hns₄
  have S₅ := S₄.turn (h' := h₄) (o' := oC) hC (tk₂ + ([] : List (Str × Value)).length) hoC fun b o hb e => hsb₄.extBut b o hb e
  have hW0 : Sti 0 h₄ := W.frame _ _ _ h0 fun b hb o e => by
    rcases hfp b hb with rfl | ⟨p, hp, rfl⟩
    · have e' : (h₁.push oI).get? b = some oI := (S₂.N (b, oI) (by simp)).1
      rw [e'] at e
      cases e
      exact (S₅.N (b, oI) (by simp)).1
    · have e' : (h₁.push oI).get? p.1 = some p.2 := (S₂.Nz p hp).1
      rw [e'] at e
      cases e
      exact (S₅.Nz p hp).1
  dsimp only at hns₄ hsb₄ hoC S₅ S₄ S₃ hD ⊢
  generalize hDa : (h₁.push oI).objs.size = D at *
  generalize hCa : ((h₁.push oI).push { cls := .type "list", data := .seq ([] : List Value).toArray }).objs.size = C at *
  obtain ⟨J, rest, hturn, hJ, turn, fin⟩ := w C D hD
  have S₆ : St g (cc c scope cl C) ρc A h₀ { s with heap := h₄, toks := tk₂ + ([] : List (Str × Value)).length } m oc ((C, oC) :: (I, oI) :: ob) ((D, lstO [] 0) :: ce₁) fz₁ ((D, .list []) :: σ₁) := by
    refine ⟨S₅.cx, ?_, S₅.eg, S₅.eb, S₅.F, S₅.N, S₅.nd, S₅.off, S₅.cs, fun x X' e => ?_, fun e => ?_⟩
    · exact L.kind
    · obtain ⟨e1, e2, e3, e4⟩ := L.cap x X' e
      obtain ⟨v, rd, r⟩ := S₅.lr x X' e1
      refine ⟨v, ?_, r⟩
      cases rd with
      | loc a b d => rw [e3] at b; cases b
      | cel a b d e' => exact .cel e2 (by rw [← e4] at b; exact b) d e'
      | cmp a b d e' => rw [e3] at a; cases a
    · have := congrArg Env.locals e
      exact absurd this.symm (S₅.N (C, oC) (by simp)).2.1.symm
  have loop : codeAny (model PG g.w) A (.compLoop (.ListComp elt (⟨target, iter, ifs, 0⟩ :: gs) scope pos) 0 (.ref I) (.ref D) (compEnvC scope cl C c.env)) (compPost (model PG g.w) A (fun _ _ => False) use PP (.ref D) C) { s with heap := h₄, toks := tk₂ + ([] : List (Str × Value)).length } := by
    refine wu_loop (c := cc c scope cl C) J hturn turn S₆ nC W hW0 hfp hSt hPi hJ fun ρ' σ' h' tk' oC' m₂' ce' fz' S₇ n₇ sb₇ j => ?_
    obtain ⟨Zs, σ₂, rfl, q⟩ := fin ρ' σ' j
    have cs := S₇.cs
    cases cs with
    | cons hc hcs =>
    obtain ⟨S₈, hc'⟩ := S₇.freeze
    cases hc' with
    | list hr =>
    have S₉ := S₁.outer S₈ rfl (fun p hp => .tail _ hp) (sb₇.trans (Sub.cons _ _))
    exact hP C oC' D Zs σ₂ h' tk' _ _ S₉ ⟨_, n₇⟩ (sb₁.trans (sb₇.trans (Sub.cons _ _))) (.list (.head _) (hr.mono (Sub.cons _ _))) q
  exact codeAny_compStart_at (gd := ⟨target, iter, ifs, 0⟩) rfl rfl loop (W.self 0 _ _ _ hW0 loop)
end
-- W14
section
variable {g : G} {c : Cfg} {ρ : Env₁} {σ : Store}

theorem we_comp {elt target iter : Expr} {ifs : List Expr} {gs : List Comprehension} {scope : Scope} {pos : Pos} {Q : V → Store → Prop} (cl : List (Str × Addr)) (ρc : Env₁)
    (L : Lies c scope cl ρ ρc) (h : We g c ρ σ iter fun X σ₁ => Walk g c elt target iter ifs gs scope pos cl ρc X σ₁ Q) (he : c.env = c.fenv := by rfl) (hs : ∀ x, foldedSetIterable iter c.env x = pure x := by intro _; rfl) :
    We g c ρ σ (.ListComp elt (⟨target, iter, ifs, 0⟩ :: gs) scope pos) Q := by
  intro A h₀ s m oc ob ce fz vs S R P hP
  show wpAny _ _ (eval (.ListComp elt (⟨target, iter, ifs, 0⟩ :: gs) scope pos) c.env) _ _ s
  rw [eval_ListComp]
  refine comp_core (use := none) L h he hs S fun C oC D Zs σ' h' tk' ce' fz' S' n sb r q => ?_
  obtain ⟨m₂, n⟩ := n
  refine ⟨m₂, n.ns (S'.N (C, oC) (by simp)).1, fun h₂ hs₂ => ?_⟩
  exact hP (.ref D) (.list Zs) σ' h₂ tk' ce' fz' (S'.forget (S'.ownNe he) tk' fun b o hb e => hs₂.extBut b o hb e) sb r q
theorem wx_assign_comp {elt target iter : Expr} {ifs : List Expr} {gs : List Comprehension} {scope : Scope} {pos : Pos} {y : Str} {py spos : Pos} {Q : Fl → Env₁ → Store → Prop} (cl : List (Str × Addr)) (ρc : Env₁)
    (L : Lies c scope cl ρ ρc) (h : We g c ρ σ iter fun X σ₁ => Walk g c elt target iter ifs gs scope pos cl ρc X σ₁ fun Z σ' => Q .next ((y, Z) :: ρ) σ') (he : c.env = c.fenv := by rfl) (hk : Keeps' c y := by exact .inl rfl) (hs : ∀ x, foldedSetIterable iter c.env x = pure x := by intro _; rfl)
    (hsw : swapsWith (.ListComp elt (⟨target, iter, ifs, 0⟩ :: gs) scope pos) (some (.Name y py)) spos.line c.env = pure true := by rfl) :
    Wx g c ρ σ (.Assign [.Name y py] (.ListComp elt (⟨target, iter, ifs, 0⟩ :: gs) scope pos) spos) Q := by
  intro A h₀ s m oc ob ce fz S P hP
  show wpAny _ _ (exec (.Assign [.Name y py] (.ListComp elt (⟨target, iter, ifs, 0⟩ :: gs) scope pos) spos) c.env) _ _ s
  rw [exec_Assign_Name_used _ _ _ _ hsw]
  refine wpAny_bind (wpAny_standAt (wpAny_bind ?_))
  show wpAny _ A (do let _ ← comprehension (.ListComp elt (⟨target, iter, ifs, 0⟩ :: gs) scope pos) scope c.env _ (newList []) false (eval iter c.env) (some (assign (.Name y py) c.env))) _ _ s
  refine wpAny_bind (wpAny_mono (comp_core (PP := fun _ s' => P .next s') (use := some (assign (.Name y py) c.env)) L h he hs S fun C oC D Zs σ' h' tk' ce' fz' S' n sb r q => ?_) (fun _ s' hq => wpAny_pure (wpAny_pure hq)) fun _ _ e => e)
  obtain ⟨m₂, n⟩ := n
  show wpAny _ A (assign (.Name y py) c.env (.ref D)) _ _ _
  refine wpAny_assign_Name (st_store S' he hk r fun h₂ tk₂ m₂' oc₂ S₂ => ?_)
  refine ⟨m₂, n.ns (S₂.N (C, oC) (by simp)).1, fun h₃ hs₃ => ?_⟩
  exact hP _ _ _ σ' h₃ tk₂ m₂' oc₂ ce' fz' (S₂.forget (S₂.ownNe he) tk₂ fun b o hb e => hs₃.extBut b o hb e) sb .next q

/-- a second clause -/
theorem wu_nest {elt : Expr} {g0 : Comprehension} {target iter : Expr} {ifs : List Expr} {scope : Scope} {pos : Pos} {acc : Value} {Q : Env₁ → Store → Prop}
    (hs : ∀ x, foldedSetIterable iter c.env x = pure x)
    (h : We g c ρ σ iter fun X σ₁ => ∃ (Ys : List V) (J : Nat → Env₁ → Store → Prop) (rest : Sem Unit), Itr g X Ys ∧
      (∀ it, compTurn (.ListComp elt [g0, ⟨target, iter, ifs, 0⟩] scope pos) 1 it acc c.env = (do
        standAt iter.pos
        match ← pyNext it with
        | none => pure (.done .next)
        | some v =>
          letOwnedTupleGo target it v
          assign target c.env v
          let mut ok := true
          for t in ifs do
            if ok then ok ← isTrue t c.env (eval t c.env)
          if ok then rest
          again (.compLoop (.ListComp elt [g0, ⟨target, iter, ifs, 0⟩] scope pos) 1 it acc c.env))) ∧
      J 0 ρ σ₁ ∧
      (∀ i Y ρ' σ', Ys[i]? = some Y → J i ρ' σ' → Wu g c ρ' σ' [Y] (op1 (assign target c.env)) fun ρ₂ σ₂ => Wts g c ρ₂ σ₂ ifs fun b σ₃ => match b with | true => Wu g c ρ₂ σ₃ [] (fun _ => rest) (J (i + 1)) | false => J (i + 1) ρ₂ σ₃) ∧
      ∀ ρ' σ', J Ys.length ρ' σ' → Q ρ' σ') :
    Wu g c ρ σ [] (fun _ => do
      let x ← eval iter c.env
      standAt iter.pos
      let x ← foldedSetIterable iter c.env x
      let _ ← runOwn (.compStart (.ListComp elt [g0, ⟨target, iter, ifs, 0⟩] scope pos) 1 (← holding [x] (pyIter x)) acc c.env) c.env) Q := by
  intro A h₀ s m oc ob oC m₂ ce fz vs S n R P hP
  refine wpAny_bind (h A h₀ s m oc _ ce fz [] S .nil _ fun xv X σ₁ h₁ tk₁ ce₁ fz₁ S₁ sb₁ rx ⟨Ys, J, rest, hit, hturn, hJ, turn, fin⟩ => ?_)
  refine wpAny_bind (wpAny_standAt (wpAny_bind (wpAny_of_eq (hs _) ?_)))
  refine wpAny_bind (wpAny_holding (hit c ρ σ₁ A h₀ _ m oc _ ce₁ fz₁ xv S₁ rx _ fun oI fp Pi Sti tk₂ hfI W h0 hfp hSt hPi => ?_))
  have S₂ := (S₁.addOb oI hfI tk₂).perm (List.Perm.swap _ _ _)
  have loop : codeAny (model PG g.w) A (.compLoop (.ListComp elt [g0, ⟨target, iter, ifs, 0⟩] scope pos) 1 (.ref h₁.objs.size) acc c.env) (fun r s' => match r with | .ok _ => P () s' | .error e => cameBackBy (model PG g.w) A c.env (fun _ _ => False) e s') { s with heap := h₁.push oI, toks := tk₂ } :=
    wu_loop J hturn turn S₂ n W h0 hfp hSt hPi hJ fun ρ' σ' h' tk' oC' m₂' ce' fz' S₃ n₃ sb₃ j => hP ρ' σ' h' tk' oC' m₂' ce' fz' S₃ n₃ (sb₁.trans sb₃) (fin ρ' σ' j)
  have start : codeAny (model PG g.w) A (.compStart (.ListComp elt [g0, ⟨target, iter, ifs, 0⟩] scope pos) 1 (.ref h₁.objs.size) acc c.env) (fun r s' => match r with | .ok _ => P () s' | .error e => cameBackBy (model PG g.w) A c.env (fun _ _ => False) e s') { s with heap := h₁.push oI, toks := tk₂ } :=
    codeAny_compStart_at (gd := ⟨target, iter, ifs, 0⟩) rfl rfl loop (W.self 0 _ _ _ h0 loop)
  refine wpAny_bind (wpAny_runOwn (codeAny_mono start fun r s' z => ?_))
  cases r with
  | ok f => exact wpAny_pure z
  | error e => exact z
end
-- W15
section
variable {g : G} {c : Cfg} {ρ : Env₁} {σ : Store}

theorem compTurn_two (elt t0 i0 t1 i1 : Expr) (ifs0 ifs1 : List Expr) (scope : Scope) (pos : Pos) (it acc : Value) (env : Env) :
    compTurn (.ListComp elt [⟨t0, i0, ifs0, 0⟩, ⟨t1, i1, ifs1, 0⟩] scope pos) 0 it acc env = (do
      standAt i0.pos
      match ← pyNext it with
      | none => pure (.done .next)
      | some v =>
        letOwnedTupleGo t0 it v
        assign t0 env v
        let mut ok := true
        for t in ifs0 do
          if ok then ok ← isTrue t env (eval t env)
        if ok then
          (do
            let x ← eval i1 env
            standAt i1.pos
            let x ← foldedSetIterable i1 env x
            let _ ← runOwn (.compStart (.ListComp elt [⟨t0, i0, ifs0, 0⟩, ⟨t1, i1, ifs1, 0⟩] scope pos) 1 (← holding [x] (pyIter x)) acc env) env)
        again (.compLoop (.ListComp elt [⟨t0, i0, ifs0, 0⟩, ⟨t1, i1, ifs1, 0⟩] scope pos) 0 it acc env)) := by
  show ((do
      standAt i0.pos
      match ← pyNext it with
      | none => pure (.done .next)
      | some v =>
        letOwnedTupleGo t0 it v
        assign t0 env v
        let mut ok := true
        for t in ifs0 do
          if ok then ok ← isTrue t env (eval t env)
        if ok then
          let x ← eval i1 env
          standAt i1.pos
          let x ← foldedSetIterable i1 env x
          let _ ← runOwn (.compStart (.ListComp elt [⟨t0, i0, ifs0, 0⟩, ⟨t1, i1, ifs1, 0⟩] scope pos) 1 (← holding [x] (pyIter x)) acc env) env
        again (.compLoop (.ListComp elt [⟨t0, i0, ifs0, 0⟩, ⟨t1, i1, ifs1, 0⟩] scope pos) 0 it acc env)) : Sem PySem.Fin) = _
  simp only [bind_assoc, pure_bind]
theorem compTurn_inner (elt t1 i1 : Expr) (g0 : Comprehension) (ifs1 : List Expr) (scope : Scope) (pos : Pos) (it acc : Value) (env : Env) :
    compTurn (.ListComp elt [g0, ⟨t1, i1, ifs1, 0⟩] scope pos) 1 it acc env = (do
      standAt i1.pos
      match ← pyNext it with
      | none => pure (.done .next)
      | some v =>
        letOwnedTupleGo t1 it v
        assign t1 env v
        let mut ok := true
        for t in ifs1 do
          if ok then ok ← isTrue t env (eval t env)
        if ok then
          (do let _ ← call (.builtin "list.append") [acc, ← eval elt env])
        again (.compLoop (.ListComp elt [g0, ⟨t1, i1, ifs1, 0⟩] scope pos) 1 it acc env)) := by rfl
theorem walk1 {elt iter : Expr} {ifs : List Expr} {scope : Scope} {pos px : Pos} {cl : List (Str × Addr)} {ρc : Env₁} {x : Str} {X : V} {Q : V → Store → Prop} (Ys : List V) (K : Nat → List V → Store → Prop)
    (hit : Itr g X Ys) (hz : Ys.length ≤ 2 ^ 20) (h0 : K 0 [] σ)
    (turn : ∀ C D i Y acc ρ' σ₂, Ys[i]? = some Y → acc.length ≤ i → D ∉ σ₂.map (·.1) → K i acc σ₂ → (∀ z Z, ρc.lookup z = some Z → ρ'.lookup z = some Z) → ((compEnvC scope cl C c.env).kindOf x = some .local → Wts g (cc c scope cl C) ((x, Y) :: ρ') ((D, .list acc) :: σ₂) ifs fun b σ₃ => match b with
      | true => We g (cc c scope cl C) ((x, Y) :: ρ') σ₃ elt fun Z σ' => ∃ σ₄, σ' = (D, .list acc) :: σ₄ ∧ D ∉ σ₄.map (·.1) ∧ K (i + 1) (acc ++ [Z]) σ₄
      | false => ∃ σ₄, σ₃ = (D, .list acc) :: σ₄ ∧ D ∉ σ₄.map (·.1) ∧ K (i + 1) acc σ₄))
    (fin : ∀ acc σ₂, K Ys.length acc σ₂ → Q (.list acc) σ₂)
    (hx : ∀ C, (compEnvC scope cl C c.env).kindOf x = some .local := by intro _; rfl) (hc : ρc.lookup x = none := by first | rfl | decide) : Walk g c elt (.Name x px) iter ifs [] scope pos cl ρc X σ Q := by
  refine ⟨Ys, hit, fun C D hD => ⟨fun i ρ' σ' => ∃ acc σ₂, σ' = (D, .list acc) :: σ₂ ∧ acc.length ≤ i ∧ D ∉ σ₂.map (·.1) ∧ K i acc σ₂ ∧ ∀ z Z, ρc.lookup z = some Z → ρ'.lookup z = some Z, (do let _ ← call (.builtin "list.append") [.ref D, ← eval elt (compEnvC scope cl C c.env)]), fun it => rfl, ⟨[], σ, rfl, Nat.le_refl _, hD, h0, fun _ _ e => e⟩, ?_, ?_⟩⟩
  · rintro i Y ρ' σ' hY ⟨acc, σ₂, rfl, hl, hD', hK, hρ⟩
    have hi := (List.getElem?_eq_some_iff.mp hY).1
    have hρ' : ∀ z Z, ρc.lookup z = some Z → List.lookup z ((x, Y) :: ρ') = some Z := fun z Z e => by
      have : (z == x) = false := beq_eq_false_iff_ne.mpr fun e' => by subst e'; rw [hc] at e; cases e
      exact lookup_skip this (hρ z Z e)
    refine wu_name (hx C) ((turn C D i Y acc ρ' σ₂ hY hl hD' hK hρ (hx C)).mono fun b σ₃ q => ?_)
    cases b with
    | false =>
      obtain ⟨σ₄, rfl, h1, h2⟩ := q
      exact ⟨acc, σ₄, rfl, Nat.le_succ_of_le hl, h1, h2, hρ'⟩
    | true =>
      refine wu_emit (acc := acc) (Wp.mono q fun Z σ' z => ?_)
      obtain ⟨σ₄, rfl, h1, h2⟩ := z
      refine ⟨lookup_top, by lia, acc ++ [Z], σ₄, ?_, ?_, h1, h2, hρ'⟩
      · exact put_head h1
      · simp only [List.length_append, List.length_cons, List.length_nil]; lia
  · rintro ρ' σ' ⟨acc, σ₂, rfl, _, _, hK, _⟩
    exact ⟨acc, σ₂, rfl, fin acc σ₂ hK⟩
/-- every item turned into another, nothing else turned -/
theorem walk_map {elt iter : Expr} {scope : Scope} {pos px : Pos} {cl : List (Str × Addr)} {ρc : Env₁} {x : Str} {X : V} {Q : V → Store → Prop} (Ys : List V) (K : Nat → List V → Prop)
    (hit : Itr g X Ys) (hz : Ys.length ≤ 2 ^ 20) (h0 : K 0 [])
    (turn : ∀ C D i Y acc ρ', Ys[i]? = some Y → K i acc → (∀ z Z, ρc.lookup z = some Z → ρ'.lookup z = some Z) → We g (cc c scope cl C) ((x, Y) :: ρ') ((D, .list acc) :: σ) elt fun Z σ' => σ' = (D, .list acc) :: σ ∧ K (i + 1) (acc ++ [Z]))
    (fin : ∀ acc, K Ys.length acc → Q (.list acc) σ)
    (hx : ∀ C, (compEnvC scope cl C c.env).kindOf x = some .local := by intro _; rfl) (hc : ρc.lookup x = none := by first | rfl | decide) : Walk g c elt (.Name x px) iter [] [] scope pos cl ρc X σ Q := by
  refine walk1 Ys (fun i acc σ' => K i acc ∧ σ' = σ) hit hz ⟨h0, rfl⟩ ?_ (fun acc σ₂ h => by obtain ⟨h, rfl⟩ := h; exact fin acc h) hx hc
  rintro C D i Y acc ρ' σ₂ hY hl hD ⟨hK, rfl⟩ hρ _
  refine wts_nil ((turn C D i Y acc ρ' hY hK hρ).mono fun Z σ' h => ?_)
  obtain ⟨rfl, h⟩ := h
  exact ⟨σ₂, rfl, hD, h, rfl⟩
theorem lies_none {scope : Scope} (hk : scope.kind = .function := by rfl) (hf : ∀ x ∈ scope.names, x.2 ≠ .free := by decide) (hc : ∀ y ∈ scope.names, y.2 ≠ .cell := by decide) (hn : ∀ y ∈ scope.names, y.2 = .local → scope.names.lookup y.1 = some .local := by decide) : Lies c scope [] ρ [] :=
  ⟨closureFor_none hf, hc, hk, hn, fun x X e => by cases e⟩
end
-- W16
section
variable {g : G} {c : Cfg} {ρ : Env₁} {σ : Store}

/-! ## what is bound -/
def Wb (g : G) (c : Cfg) (ρ : Env₁) (σ : Store) (Vs : List V) (t : List Value → Sem Unit) (Q : Env₁ → Store → Prop) : Prop :=
  ∀ A h₀ s m oc ob ce fz vs, St g c ρ A h₀ s m oc ob ce fz σ → Reps fz vs Vs → ∀ P : Unit → Shared → Prop,
    (∀ ρ' σ' h' tk' m' oc' ce' fz', St g c ρ' A h₀ { s with heap := h', toks := tk' } m' oc' ob ce' fz' σ' → Sub fz fz' → Q ρ' σ' → P () { s with heap := h', toks := tk' }) →
    wpAny (model PG g.w) A (t vs) P (fun _ _ => False) s
theorem wb_name {x : Str} {px : Pos} {X : V} {Q : Env₁ → Store → Prop} (h : Q ((x, X) :: ρ) σ) (he : c.env = c.fenv := by rfl) (hk : Keeps' c x := by exact .inl rfl) : Wb g c ρ σ [X] (op1 (assign (.Name x px) c.env)) Q := by
  intro A h₀ s m oc ob ce fz vs S R P hP
  cases R with
  | cons ra R => cases R with
    | nil => exact wpAny_assign_Name (st_store S he hk ra fun h' tk' m' oc' S' => hP _ _ h' tk' m' oc' ce fz S' (Sub.refl _) h)
theorem wb_sub {o i : Expr} {pos : Pos} {Y : V} {Q : Env₁ → Store → Prop} (h : We g c ρ σ o fun X σ₁ => We g c ρ σ₁ i fun I σ₂ => Wp g c ρ σ₂ [X, I, Y] EqU (op3 setItem) fun _ σ₃ => Q ρ σ₃) : Wb g c ρ σ [Y] (op1 (assign (.Subscript o i pos) c.env)) Q := by
  intro A h₀ s m oc ob ce fz vs S R P hP
  cases R with
  | @cons y _ _ _ ry R => cases R with
    | nil =>
    show wpAny _ _ (assign (.Subscript o i pos) c.env y) _ _ s
    rw [assign_Subscript]
    refine wpAny_bind (wpAny_holding (h A h₀ s m oc ob ce fz [] S .nil _ fun a X σ₁ h₁ tk₁ ce₁ fz₁ S₁ sb₁ ra h => ?_))
    refine wpAny_bind (wpAny_holding (h A h₀ _ m oc ob ce₁ fz₁ [] S₁ .nil _ fun b I σ₂ h₂ tk₂ ce₂ fz₂ S₂ sb₂ rb h => ?_))
    refine wpAny_bind (wpAny_standAt (wpAny_bind (wpAny_holding ?_)))
    refine h A h₀ _ m oc ob ce₂ fz₂ [a, b, y] S₂ (.cons (ra.mono sb₂) (.cons rb (.cons (ry.mono (sb₁.trans sb₂)) .nil))) _ fun _ _ σ₃ h₃ tk₃ ce₃ fz₃ S₃ sb₃ _ q => ?_
    exact wpAny_release (hP _ _ h₃ tk₃ m oc ce₃ fz₃ S₃ (sb₁.trans (sb₂.trans sb₃)) q)
def Wbl (g : G) (c : Cfg) : Env₁ → Store → List V → List (Value → Sem Unit) → (Env₁ → Store → Prop) → Prop
  | ρ, σ, X :: Xs, t :: ts, Q => Wb g c ρ σ [X] (op1 t) fun ρ' σ' => Wbl g c ρ' σ' Xs ts Q
  | ρ, σ, _, _, Q => Q ρ σ
theorem wbl_run {A : Around} {h₀ : Heap} {ob : Led} : ∀ {Xs : List V} {ts : List (Value → Sem Unit)} {ρ : Env₁} {σ : Store} {Q : Env₁ → Store → Prop} {s : Shared} {m : Str → Option Value} {oc ce fz : Led} {vs : List Value}, Wbl g c ρ σ Xs ts Q → St g c ρ A h₀ s m oc ob ce fz σ → Reps fz vs Xs → ∀ P : Unit → Shared → Prop,
    (∀ ρ' σ' h' tk' m' oc' ce' fz', St g c ρ' A h₀ { s with heap := h', toks := tk' } m' oc' ob ce' fz' σ' → Sub fz fz' → Q ρ' σ' → P () { s with heap := h', toks := tk' }) → wpAny (model PG g.w) A (assignInOrder ts vs) P (fun _ _ => False) s
  | [], ts, ρ, σ, Q, s, m, oc, ce, fz, vs, h, S, R, P, hP => by
    cases R
    cases ts with
    | nil => exact assignInOrder_nil (hP ρ σ s.heap s.toks m oc ce fz S (Sub.refl _) h)
    | cons t ts => exact wpAny_pure (hP ρ σ s.heap s.toks m oc ce fz S (Sub.refl _) h)
  | X :: Xs, [], ρ, σ, Q, s, m, oc, ce, fz, vs, h, S, R, P, hP => assignInOrder_nil (hP ρ σ s.heap s.toks m oc ce fz S (Sub.refl _) h)
  | X :: Xs, t :: ts, ρ, σ, Q, s, m, oc, ce, fz, vs, h, S, R, P, hP => by
    cases R with
    | cons ra R =>
    refine assignInOrder_cons (h A h₀ s m oc ob ce fz [_] S (.cons ra .nil) _ fun ρ' σ' h' tk' m' oc' ce' fz' S' sb q => ?_)
    exact wbl_run q S' (R.mono sb) P fun ρ₂ σ₂ h₂ tk₂ m₂ oc₂ ce₂ fz₂ S₂ sb₂ q₂ => hP ρ₂ σ₂ h₂ tk₂ m₂ oc₂ ce₂ fz₂ S₂ (sb.trans sb₂) q₂
theorem wb_tup {elts : List Expr} {k : Nat} {pos : Pos} {Xs : List V} {Q : Env₁ → Store → Prop} (h : Wbl g c ρ σ Xs ((assignEach elts c.env).map (·.2)) Q) (hn : (assignEach elts c.env).length = Xs.length := by rfl) (hs : (assignEach elts c.env).findIdx? (·.1) = none := by rfl) :
    Wb g c ρ σ [.tup Xs] (op1 (assign (.Tuple elts k pos) c.env)) Q := by
  intro A h₀ s m oc ob ce fz vs S R P hP
  cases R with
  | cons ra R => cases R with
    | nil => cases ra with
      | @tup a us n _ hm hr =>
      have hl : IsTup s.heap a us.toArray := ⟨_, (S.Nz _ hm).1, rfl, _, rfl⟩
      show wpAny _ _ (assign (.Tuple elts k pos) c.env (.ref a)) _ _ s
      refine assign_Tuple_tuple S.cx.hh hl (by rw [hn, List.size_toArray, hr.length]) hs fun h₁ he => ?_
      exact wbl_run h (S.extBut s.toks he) hr P hP
theorem wx_assign_tup {elts : List Expr} {k : Nat} {tpos pos : Pos} {e : Expr} {Q : Fl → Env₁ → Store → Prop} (h : We g c ρ σ e fun X σ₁ => Wb g c ρ σ₁ [X] (op1 (assign (.Tuple elts k tpos) c.env)) fun ρ' σ' => Q .next ρ' σ')
    (hs : swapsWithSole [.Tuple elts k tpos] e pos.line c.env = pure false := by rfl) (hw : swappedStores [.Tuple elts k tpos] e c.env = pure none := by rfl) : Wx g c ρ σ (.Assign [.Tuple elts k tpos] e pos) Q := by
  intro A h₀ s m oc ob ce fz S P hP
  refine Assign_Tuple (h A h₀ s m oc ob ce fz [] S .nil _ fun a X σ₁ h₁ tk₁ ce₁ fz₁ S₁ sb₁ ra hq => ?_) hs hw
  exact hq A h₀ _ m oc ob ce₁ fz₁ [a] S₁ (.cons ra .nil) _ fun ρ' σ' h' tk' m' oc' ce' fz' S' sb q => hP _ _ ρ' σ' h' tk' m' oc' ce' fz' S' (sb₁.trans sb) .next q
theorem wx_assign_sub {o i : Expr} {tpos pos : Pos} {e : Expr} {Q : Fl → Env₁ → Store → Prop} (h : We g c ρ σ e fun X σ₁ => Wb g c ρ σ₁ [X] (op1 (assign (.Subscript o i tpos) c.env)) fun ρ' σ' => Q .next ρ' σ')
    (hs : swapsWith e (some (.Subscript o i tpos)) pos.line c.env = pure false := by rfl) : Wx g c ρ σ (.Assign [.Subscript o i tpos] e pos) Q := by
  intro A h₀ s m oc ob ce fz S P hP
  show wpAny _ _ (exec (.Assign [.Subscript o i tpos] e pos) c.env) _ _ s
  rw [exec_Assign_Subscript _ _ _ _ _ hs]
  refine wpAny_bind (wpAny_standAt (wpAny_bind (h A h₀ s m oc ob ce fz [] S .nil _ fun a X σ₁ h₁ tk₁ ce₁ fz₁ S₁ sb₁ ra hq => ?_)))
  exact wpAny_bind (hq A h₀ _ m oc ob ce₁ fz₁ [a] S₁ (.cons ra .nil) _ fun ρ' σ' h' tk' m' oc' ce' fz' S' sb q => wpAny_pure (hP _ _ ρ' σ' h' tk' m' oc' ce' fz' S' (sb₁.trans sb) .next q))
/-- two tuples, their names stored from behind -/
theorem wx_assign_swap {elts : List Expr} {k : Nat} {tpos pos : Pos} {e : Expr} {names : List Str} {Q : Fl → Env₁ → Store → Prop}
    (hw : swappedStores [.Tuple elts k tpos] e c.env = pure (some names))
    (h : We g c ρ σ e fun X σ₁ => ∃ Xs, X = .tup Xs ∧ names.length = Xs.length ∧ Wbl g c ρ σ₁ Xs.reverse (names.reverse.map fun n => bindName c.env n) fun ρ' σ' => Q .next ρ' σ')
    (hs : swapsWithSole [.Tuple elts k tpos] e pos.line c.env = pure false := by rfl) : Wx g c ρ σ (.Assign [.Tuple elts k tpos] e pos) Q := by
  intro A h₀ s m oc ob ce fz S P hP
  refine Assign_Tuple_swapped (names := names) (h A h₀ s m oc ob ce fz [] S .nil _ fun a X σ₁ h₁ tk₁ ce₁ fz₁ S₁ sb₁ ra hq => ?_) hs hw
  obtain ⟨Xs, rfl, hl, hq⟩ := hq
  cases ra with
  | @tup a us n _ hm hr =>
  have hl' : IsTup h₁ a us.toArray := ⟨_, (S₁.Nz _ hm).1, rfl, _, rfl⟩
  have e : names.length = us.toArray.size := by rw [hl, List.size_toArray, hr.length]
  rw [e]
  refine unpackItems_tuple S.cx.hh hl' fun h₂ he => ?_
  exact wbl_run hq (S₁.extBut tk₁ he) (hr.reverse) _ fun ρ' σ' h' tk' m' oc' ce' fz' S' sb q => hP _ _ ρ' σ' h' tk' m' oc' ce' fz' S' (sb₁.trans sb) .next q
theorem wb_bind {x : Str} {X : V} {Q : Env₁ → Store → Prop} (h : Q ((x, X) :: ρ) σ) (he : c.env = c.fenv := by rfl) (hk : Keeps' c x := by exact .inl rfl) : Wb g c ρ σ [X] (op1 (bindName c.env x)) Q := by
  intro A h₀ s m oc ob ce fz vs S R P hP
  cases R with
  | cons ra R => cases R with
    | nil => exact wpAny_bindName (st_store S he hk ra fun h' tk' m' oc' S' => hP _ _ h' tk' m' oc' ce fz S' (Sub.refl _) h)

/-! ## numbers -/
theorem mod_ints {a b : Int} {Q : V → Store → Prop} (hb : b ≠ 0) (h : Q (.int (a.fmod b)) σ) : Wp g c ρ σ [.int a, .int b] Rep (op2 (binaryOp .Mod)) Q :=
  wp_pure2 fun A h₀ s m oc ob ce fz x y S rx ry P hP => by
    cases rx; cases ry
    exact PyProof.Rows.mod_int hb (hP _ (.int (a.fmod b)) s.heap _ fz (S.toks _) (Sub.refl _) .int h)
theorem wp_call1 {X : V} {f : Value} {Q : V → Store → Prop}
    (h : ∀ A h₀ s m oc ob ce fz a, St g c ρ A h₀ s m oc ob ce fz σ → Rep fz a X → ∀ P : Value → Shared → Prop, (∀ r z h' tk' fz', St g c ρ A h₀ { s with heap := h', toks := tk' } m oc ob ce fz' σ → Sub fz fz' → Rep fz' r z → Q z σ → P r { s with heap := h', toks := tk' }) → wpAny (model PG g.w) A (call f [a]) P (fun _ _ => False) s) :
    Wp g c ρ σ [X] Rep (fun vs => call f vs) Q := by
  intro A h₀ s m oc ob ce fz vs S R P hP
  cases R with
  | cons ra R => cases R with
    | nil => exact h A h₀ s m oc ob ce fz _ S ra P fun r z h' tk' fz' S' sb rr q => hP r z σ h' tk' ce fz' S' sb rr q
theorem wp_call2 {X Y : V} {f : Value} {Q : V → Store → Prop}
    (h : ∀ A h₀ s m oc ob ce fz a b, St g c ρ A h₀ s m oc ob ce fz σ → Rep fz a X → Rep fz b Y → ∀ P : Value → Shared → Prop, (∀ r z h' tk' fz', St g c ρ A h₀ { s with heap := h', toks := tk' } m oc ob ce fz' σ → Sub fz fz' → Rep fz' r z → Q z σ → P r { s with heap := h', toks := tk' }) → wpAny (model PG g.w) A (call f [a, b]) P (fun _ _ => False) s) :
    Wp g c ρ σ [X, Y] Rep (fun vs => call f vs) Q := by
  intro A h₀ s m oc ob ce fz vs S R P hP
  cases R with
  | cons ra R => cases R with
    | cons rb R => cases R with
      | nil => exact h A h₀ s m oc ob ce fz _ _ S ra rb P fun r z h' tk' fz' S' sb rr q => hP r z σ h' tk' ce fz' S' sb rr q
theorem abs_int' {a : Int} {Q : V → Store → Prop} (h : Q (.int (if a < 0 then -a else a)) σ) : Wp g c ρ σ [.int a] Rep (fun vs => call (.builtin "abs") vs) Q :=
  wp_call1 fun A h₀ s m oc ob ce fz x S rx P hP => by
    cases rx
    exact call_abs_int fun u tk => hP _ (.int _) s.heap tk fz (S.toks _) (Sub.refl _) .int h
theorem int_int' {a : Int} {Q : V → Store → Prop} (h : Q (.int a) σ) : Wp g c ρ σ [.int a] Rep (fun vs => call (.type "int") vs) Q :=
  wp_call1 fun A h₀ s m oc ob ce fz x S rx P hP => by
    cases rx
    exact call_int_int (hP _ (.int _) s.heap s.toks fz S (Sub.refl _) .int h)
theorem int_bool' {b : Bool} {Q : V → Store → Prop} (h : Q (.int (if b then 1 else 0)) σ) : Wp g c ρ σ [.bool b] Rep (fun vs => call (.type "int") vs) Q :=
  wp_call1 fun A h₀ s m oc ob ce fz x S rx P hP => by
    cases rx
    exact call_int_bool (hP _ (.int _) s.heap _ fz (S.toks _) (Sub.refl _) .int h)
theorem ord_str' {k : Nat} {Q : V → Store → Prop} (h : Q (.int k) σ) : Wp g c ρ σ [.str ⟨#[k]⟩] Rep (fun vs => call (.builtin "ord") vs) Q :=
  wp_call1 fun A h₀ s m oc ob ce fz x S rx P hP => by
    cases rx
    exact PySem.P.ord_of_char (hP _ (.int _) s.heap _ fz (S.toks _) (Sub.refl _) .int h)
theorem chr_int' {i : Int} {Q : V → Store → Prop} (h0 : 0 ≤ i) (h1 : i ≤ 1114111) (h : Q (.str ⟨#[i.toNat]⟩) σ) : Wp g c ρ σ [.int i] Rep (fun vs => call (.builtin "chr") vs) Q :=
  wp_call1 fun A h₀ s m oc ob ce fz x S rx P hP => by
    cases rx
    exact chr_of_range h0 h1 (hP _ (.str _) s.heap _ fz (S.toks _) (Sub.refl _) .str h)
theorem max2_ints {a b : Int} {Q : V → Store → Prop} (h : Q (.int (if b > a then b else a)) σ) : Wp g c ρ σ [.int a, .int b] Rep (fun vs => call (.builtin "max") vs) Q :=
  wp_call2 fun A h₀ s m oc ob ce fz x y S rx ry P hP => by
    cases rx; cases ry
    exact max_two_N S.cx.hh S.F S.N fun h' tk F' N' => hP _ (.int _) h' tk fz (S.ofSame tk F' N') (Sub.refl _) .int h
theorem min2_ints {a b : Int} {Q : V → Store → Prop} (h : Q (.int (if b < a then b else a)) σ) : Wp g c ρ σ [.int a, .int b] Rep (fun vs => call (.builtin "min") vs) Q :=
  wp_call2 fun A h₀ s m oc ob ce fz x y S rx ry P hP => by
    cases rx; cases ry
    exact min_two_N S.cx.hh S.F S.N fun h' tk F' N' => hP _ (.int _) h' tk fz (S.ofSame tk F' N') (Sub.refl _) .int h
theorem divmod_ints {a b : Int} {Q : V → Store → Prop} (hb : b ≠ 0) (hp : Builtin.divisionGoesByPylong a b = false) (h : Q (.tup [.int (a.fdiv b), .int (a.fmod b)]) σ) : Wp g c ρ σ [.int a, .int b] Rep (fun vs => call (.builtin "divmod") vs) Q :=
  wp_call2 fun A h₀ s m oc ob ce fz x y S rx ry P hP => by
    cases rx; cases ry
    exact divmod_N S.F S.N hb (fun h' F' N' => hP _ (.tup [.int (a.fdiv b), .int (a.fmod b)]) h' _ _ (S.ofNews _ F' N') (Sub.cons _ _) (.tup (vs := [_, _]) (n := 0) (.head _) (.cons .int (.cons .int .nil))) h) (.inl hp)
abbrev rngO (a b : Int) (t u v : Tok) : Obj := { cls := .type "range", data := .fields #[.int a t, .int b u, .int 1 v] }
theorem range1 {n : Int} {Q : V → Store → Prop} (h : ∀ t u v, Q (.adr (rngO 0 n t u v)) σ) : Wp g c ρ σ [.int n] Rep (fun vs => call (.type "range") vs) Q :=
  wp_call1 fun A h₀ s m oc ob ce fz x S rx P hP => by
    cases rx
    exact call_range_1 (hP _ (.adr _) _ _ _ (S.push _ rfl _) (Sub.cons _ _) (.adr (.head _) (S.F.notModules (modules_low S.cx.T.nolimit))) (h _ _ _))
theorem range2 {a b : Int} {Q : V → Store → Prop} (h : ∀ t u v, Q (.adr (rngO a b t u v)) σ) : Wp g c ρ σ [.int a, .int b] Rep (fun vs => call (.type "range") vs) Q :=
  wp_call2 fun A h₀ s m oc ob ce fz x y S rx ry P hP => by
    cases rx; cases ry
    exact call_range_2 (hP _ (.adr _) _ _ _ (S.push _ rfl _) (Sub.cons _ _) (.adr (.head _) (S.F.notModules (modules_low S.cx.T.nolimit))) (h _ _ _))
theorem itr_rng (g : G) {a b : Int} {t u v : Tok} (ha : -(2 ^ 62) ≤ a) (ha' : a < 2 ^ 62) (hb : -(2 ^ 62) ≤ b) (hb' : b < 2 ^ 62) : Itr g (.adr (rngO a b t u v)) ((List.range (b - a).toNat).map fun (i : Nat) => V.int (a + (i : Int))) := by
  intro c ρ σ A h₀ s m oc ob ce fz x S R P hP
  cases R with
  | @adr r _ hm _ =>
  have hr : IsRange s.heap r a b 1 t u v := (S.Nz _ hm).1
  refine wpAny_pyIter_range hr (small_one ha ha' hb hb') ?_
  have e : Builtin.Range.rangeSize a b 1 = ((b - a).toNat : Int) := rangeSize_nat a b
  rw [e]
  have W := (Walks.range (prog := PG) (w := g.w) S.cx.hh s.heap.objs.size a 1 (b - a).toNat).bound
  have el : ((List.range (b - a).toNat).map fun (i : Nat) => V.int (a + (i : Int))).length = (b - a).toNat := by simp
  refine hP _ [s.heap.objs.size] (fun i v => i < (b - a).toNat ∧ ∃ t, v = .int (a + (i : Nat) * 1) t) (fun i h => IsRangeIter h s.heap.objs.size (a + (i : Nat) * 1) (((b - a).toNat : Int) - (i : Nat)) 1) s.toks rfl (by rw [el]; exact W) ?_ (fun b hb => .inl (List.mem_singleton.mp hb)) (fun i h hst => ⟨_, hst, _, rfl, by decide⟩) fun i w hu => ?_
  · have := Heap.get?_push_size s.heap (o := { cls := .type "range_iterator", data := .fields #[rawInt a, rawInt ((b - a).toNat : Int), rawInt 1] }) rfl
    show IsRangeIter _ _ _ _ _
    have e1 : a + ((0 : Nat) : Int) * 1 = a := by lia
    have e2 : ((b - a).toNat : Int) - ((0 : Nat) : Int) = ((b - a).toNat : Int) := by lia
    rw [e1, e2]
    exact this
  · obtain ⟨hlt, t', rfl⟩ := hu
    exact ⟨_, by rw [List.getElem?_map, List.getElem?_range hlt]; rfl, by simpa using (Rep.int (fz := fz) (i := a + (i : Int)) (t := t'))⟩
end
-- W17
theorem cells_addr {cm : Str → Option Value} : ∀ {cs : List (Str × Addr)} {cells : Led}, CellsAre cm cs cells → cells.map (·.1) = cs.map (·.2)
  | _, _, .nil => rfl
  | _, _, .cons _ r => by simp [cells_addr r]
theorem cells_find {cm : Str → Option Value} {x : Str} {a : Addr} : ∀ {cs : List (Str × Addr)} {cells : Led}, CellsAre cm cs cells → cs.lookup x = some a → ∃ o v, (a, o) ∈ cells ∧ o.data = .cell v
  | _, _, .nil, e => by simp at e
  | _, _, .cons (n := n) h r, e => by
    rw [List.lookup_cons] at e
    split at e
    · cases e; exact ⟨_, _, .head _, h⟩
    · obtain ⟨o, v, a, b⟩ := cells_find r e; exact ⟨o, v, .tail _ a, b⟩
section
variable {g : G} {c : Cfg} {ρ : Env₁} {σ : Store}

/-- a call of a def of the text's with cells of its own -/
theorem wc_defC {d : Nat} {name qual : Str} {params : Arguments} {body : List Stmt} {scope : Scope} {dV kV doc pm cdv ct ocl : Value} {an od : Option Addr} {osl : Array (Option Value)} {f : Addr} {X : V} {Q : V → Store → Prop} (p : Str)
    (ho : (hd.heap_1 g.w.params).lookup f = some ⟨ocl, od, .func (fnOf name qual params body scope dV kV doc pm an cdv ct), osl⟩) (hcd : codeIn (hd.heap_1 g.w.params) cdv qual = true)
    (hbind : ∀ (s : Shared) (v : Value), BindsTo s (fnOf name qual params body scope dV kV doc pm an cdv ct) ⟨[v], []⟩ [(p, v)])
    (hloc : scope.names.lookup p = some .local)
    (hnd : ((cellsFrom 0 scope.names []).map (·.1)).Nodup)
    (hcn : ∀ L, ((cellsFrom (L + 1) scope.names []).map (·.2)).Nodup ∧ ∀ q ∈ cellsFrom (L + 1) scope.names [], L < q.2)
    (h : ∀ L, Wss g ⟨d, envOfC qual scope L f cdv, envOfC qual scope L f cdv⟩ [(p, X)] σ body fun fl _ σ' => Q (match fl with | .ret X => X | _ => .none) σ')
    (hco : scope.isCoroutine = false := by rfl) (hgen : scope.isGenerator = false := by rfl) (hk : scope.kind = .function := by rfl) : Wc g (d + 1) (.ref f) σ [X] Q := by
  intro c ρ hle A h₀ s m oc ob ce fz vs S R P hP
  obtain ⟨A₀, base, outer, B, hA⟩ := S.cx.bel
  cases R with
  | @cons v _ _ _ rv R => cases R with
    | nil =>
  refine code_defC B S.F S.cx.X S.N S.cx.T hA S.cx.fr S.cx.kd ho hcd ?_ (hbind s v) ?_ hnd ?_ hco hgen hk
  · have := S.cx.room; lia
  · simp only [List.all_cons, List.all_nil, hloc]; rfl
  · intro gh L' h₁ tk cells FG F' N' Y B' X' T' lt
    have hkp : (envOfC qual scope L' f cdv).kindOf p = some .local := hloc
    simp only [bindL, bindC, hkp, if_true] at F' Y
    have ca := cells_addr Y
    have hc' := hcn L'
    have above : ∀ q ∈ cells, L' < q.1 := fun q hq => by
      have hm := List.mem_map_of_mem (f := (·.1)) hq
      rw [ca] at hm
      obtain ⟨r, hr, e⟩ := List.mem_map.mp hm
      rw [← e]
      exact hc'.2 r hr
    have S' : St g ⟨d, envOfC qual scope L' f cdv, envOfC qual scope L' f cdv⟩ [(p, X)] (A.deeper (envOfC qual scope L' f cdv)) gh { s with heap := h₁, toks := tk } (fun y => if y = p then some v else none) cells (oc ++ ob) ce fz σ := by
      refine ⟨⟨⟨A, base, c.fenv :: outer, B', ?_⟩, rfl, hk, X', T', ?_, S.cx.hh, ?_, ?_⟩, hk, rfl, rfl, F', ?_, ?_, ?_, S.cs, ?_, fun _ x a e => cells_find Y e⟩
      · show A.frames.map (envOfC qual scope L' f cdv :: ·) = _
        rw [hA]; rfl
      · obtain ⟨o, ho, r⟩ := S.cx.sc
        exact ⟨o, FG.keep _ _ ho, r⟩
      · have := S.cx.room
        show A.depth + 1 + d < recursionLimit
        lia
      · have := S.cx.units
        show A.units + 3 + 8 * d < cLine
        lia
      · show News gh L' h₁ _
        simpa [List.append_assoc] using N'
      · have nd := S.nd
        rw [List.append_assoc, List.map_append, List.nodup_append]
        refine ⟨by rw [ca]; exact hc'.1, nd, fun a ha b hb e => ?_⟩
        obtain ⟨q, hq, rfl⟩ := List.mem_map.mp ha
        obtain ⟨r, hr, rfl⟩ := List.mem_map.mp hb
        have h1 := above q hq
        have h2 := lt r (by simp only [List.mem_append] at hr ⊢; rcases hr with (h | h) | h <;> simp [h])
        rw [e] at h1
        exact Nat.lt_asymm h1 h2
      · intro q hq r hr e
        rw [List.append_assoc] at hq
        rcases List.mem_append.mp hq with h1 | h1
        · have h1 := above q h1
          have h2 := lt r (by simp [hr])
          rw [e] at h1
          exact Nat.lt_asymm h1 h2
        · exact S.off q h1 r hr e
      · intro x Z e
        rw [lookup_cons_str] at e
        by_cases hx : x = p
        · rw [if_pos hx] at e
          cases e
          exact ⟨v, .loc rfl (by rw [hx]; exact hkp) (if_pos hx), rv⟩
        · rw [if_neg hx] at e
          cases e
    refine wpAny_mono (h L' _ gh _ _ cells (oc ++ ob) ce fz S' (fun fl s' => LeaveK h₀ c.fenv.locals m gh (Back P) (match fl with | .ret v => v | _ => .none) s') fun fl Fl ρ' σ' h' tk' m' oc' ce' fz' S₂ sb rf q => ?_) (fun fl s' h => h) fun _ _ x => x.elim
    refine ⟨L', m', (oc ++ ob) ++ (ce' ++ fz'), S₂.F, fun p hp => ?_, fun F₃ N₃ => ?_⟩
    · rcases List.mem_append.mp hp with h1 | h1
      · exact S₂.No p (List.mem_append.mpr (.inr h1))
      · exact S₂.N p (List.mem_append.mpr (.inr h1))
    · have nd₃ : ((oc ++ ob ++ ce').map (·.1)).Nodup := by
        have := S₂.nd
        rw [List.append_assoc, List.map_append, List.nodup_append] at this
        simpa using this.2.1
      have S₃ : St g c ρ A h₀ { s with heap := h', toks := tk' } m oc ob ce' fz' σ' :=
        ⟨S.cx, S.ek, S.eg, S.eb, F₃, N₃, nd₃, fun p hp q hq => S₂.off p (by rw [List.append_assoc]; exact List.mem_append.mpr (.inr hp)) q hq, S₂.cs, S.lr.mono sb, S.cl⟩
      cases rf with
      | ret r => exact hP _ _ σ' h' tk' ce' fz' S₃ sb r q
      | next => exact hP _ _ σ' h' tk' ce' fz' S₃ sb .none q
      | brk => exact hP _ _ σ' h' tk' ce' fz' S₃ sb .none q
      | cont => exact hP _ _ σ' h' tk' ce' fz' S₃ sb .none q

/-- the signs of an ASCII text -/
theorem itr_str (g : G) {x : Str} (hx : x.cps.all (· < 128) = true) : Itr g (.str x) (x.cps.toList.map fun k => V.str ⟨#[k]⟩) := by
  intro c ρ σ A h₀ s m oc ob ce fz v S R P hP
  cases R with
  | @str _ t =>
  refine wpAny_pyIter_ascii hx ?_
  have W := Walks.strAscii (prog := PG) (w := g.w) S.cx.hh s.heap.objs.size x t
  have el : (x.cps.toList.map fun k => V.str ⟨#[k]⟩).length = x.cps.size := by simp
  refine hP _ [s.heap.objs.size] (SignAt x) (fun i h => h.IsStrIter s.heap.objs.size "str_ascii_iterator" x t i) s.toks rfl (by rw [el]; exact W) ⟨_, Heap.get?_push_size _ rfl, rfl, rfl⟩ (fun b hb => .inl (List.mem_singleton.mp hb)) (fun i h hst => hst.elim fun o ho => ⟨o, ho.1, _, ho.2.1, by decide⟩) fun i u hu => ?_
  obtain ⟨k, t', e, rfl⟩ := hu
  refine ⟨.str ⟨#[k]⟩, ?_, .str⟩
  rw [List.getElem?_map, Array.getElem?_toList, e]
  rfl

/-- a for over anything that is walked -/
theorem wx_forT {target : Expr} {pos : Pos} {iter : Expr} {body : List Stmt} {Q : Fl → Env₁ → Store → Prop} (J : Nat → Env₁ → Store → Prop)
    (h : We g c ρ σ iter fun X σ₁ => ∃ Ys, Itr g X Ys ∧ J 0 ρ σ₁ ∧ (∀ i Y ρ' σ', Ys[i]? = some Y → J i ρ' σ' → Wb g c ρ' σ' [Y] (op1 (assign target c.env)) fun ρ₂ σ₂ => Wss g c ρ₂ σ₂ body (TurnQ Q (J (i + 1)))) ∧ ∀ ρ' σ', J Ys.length ρ' σ' → Q .next ρ' σ')
    (he : c.env = c.fenv := by rfl) (hs : ∀ x, foldedSetIterable iter c.env x = pure x := by intro _; rfl) : Wx g c ρ σ (.For target iter body [] pos) Q := by
  intro A h₀ s m oc ob ce fz S P hP
  refine wpAny_For (h A h₀ s m oc ob ce fz [] S .nil _ fun a X σ₁ h₁ tk₁ ce₁ fz₁ S₁ sb₁ ra hq => ?_) hs
  obtain ⟨Ys, hit, hJ, turn, done⟩ := hq
  refine hit c ρ σ₁ A h₀ _ m oc ob ce₁ fz₁ a S₁ ra _ fun oI fp Pi Sti tk₂ hfI W h0 hfp hSt hPi => ?_
  have S₂ := S₁.addOb oI hfI tk₂
  generalize hI : h₁.objs.size = I at *
  refine codeAny_loop' rfl (fun k s' => ∃ i h' tk' ρ' σ' m' oc' ce' fz' o, s' = { s with heap := h', toks := tk' } ∧ i ≤ Ys.length ∧ k = Ys.length + 1 - i ∧ St g c ρ' A h₀ s' m' oc' ((I, o) :: ob) ce' fz' σ' ∧ Sti i h' ∧ Sub fz₁ fz' ∧ J i ρ' σ') ?_ (Ys.length + 1) ⟨0, _, _, ρ, σ₁, m, oc, ce₁, fz₁, oI, rfl, Nat.zero_le _, rfl, S₂, h0, Sub.refl _, hJ⟩
  rintro k s' ⟨i, h', tk', ρ', σ', m', oc', ce', fz', o, rfl, hi, rfl, S', hst, sb', hJ'⟩
  show wpAny _ _ ((forTurn target (.ref I) body [] c.env).onRaise (fun x => do noteFrame x c.env; theTreesLotGoes x)) _ _ _
  refine wpAny_noted ?_
  simp only [forTurn]
  have hIne := S'.ownNe he
  refine wpAny_bind (wpAny_standAt (wpAny_bind (wpAny_onRaise ?_)))
  by_cases hlt : i < Ys.length
  · refine W.item i _ _ _ hlt hst fun v h₂ tk₂ hv st₂ hk₂ => ?_
    obtain ⟨Y, hY, ru⟩ := hPi i v hv
    obtain ⟨o₂, ho₂, hq₂⟩ := hSt _ _ st₂
    have S₂ := S'.turn hIne tk₂ ho₂ fun b o' hb e => hk₂ b o' (by simpa using hb) e
    have frame : ∀ {ρ'' σ'' h'' tk'' m'' oc'' ce'' fz''}, St g c ρ'' A h₀ { s with heap := h'', toks := tk'' } m'' oc'' ((I, o₂) :: ob) ce'' fz'' σ'' → Sub fz' fz'' → Sti (i + 1) h'' := by
      intro ρ'' σ'' h'' tk'' m'' oc'' ce'' fz'' S'' sb''
      refine W.frame _ _ _ st₂ fun b hb o' e => ?_
      rcases hfp b hb with rfl | ⟨p, hp, rfl⟩
      · rw [ho₂] at e
        cases e
        exact (S''.N (b, o₂) (by simp)).1
      · have e' := (S₂.Nz _ (sb' _ hp)).1
        have e'' : h₂.get? p.1 = some p.2 := e'
        rw [e''] at e
        cases e
        exact (S''.Nz _ (sb'' _ (sb' _ hp))).1
    dsimp only
    refine wpAny_bind (own_quiet ho₂ hq₂ ?_)
    refine wpAny_bind (no_err (turn i Y ρ' σ' hY hJ' A h₀ _ m' oc' ((I, o₂) :: ob) ce' fz' [v] S₂ (.cons (ru.mono sb') .nil) _ fun ρ₃ σ₃ h₃ tk₃ m₃ oc₃ ce₃ fz₃ S₃ sb₃ q => ?_) fun _ _ h => h)
    refine wpAny_bind (no_err (q A h₀ _ m₃ oc₃ ((I, o₂) :: ob) ce₃ fz₃ S₃ _ fun f fl ρ₄ σ₄ h₄ tk₄ m₄ oc₄ ce₄ fz₄ S₄ sb₄ rf q => ?_) fun _ _ h => h)
    cases rf with
    | next => exact wpAny_pure (.inl ⟨rfl, Ys.length + 1 - (i + 1), by lia, i + 1, h₄, tk₄, ρ₄, σ₄, m₄, oc₄, ce₄, fz₄, o₂, rfl, hlt, rfl, S₄, frame S₄ (sb₃.trans sb₄), sb'.trans (sb₃.trans sb₄), q⟩)
    | cont => exact wpAny_pure (.inl ⟨rfl, Ys.length + 1 - (i + 1), by lia, i + 1, h₄, tk₄, ρ₄, σ₄, m₄, oc₄, ce₄, fz₄, o₂, rfl, hlt, rfl, S₄, frame S₄ (sb₃.trans sb₄), sb'.trans (sb₃.trans sb₄), q⟩)
    | brk => exact wpAny_pure (hP _ _ ρ₄ σ₄ h₄ tk₄ m₄ oc₄ ce₄ fz₄ (S₄.drop hIne) (sb₁.trans (sb'.trans (sb₃.trans sb₄))) .next q)
    | ret r => exact wpAny_pure (hP _ _ ρ₄ σ₄ h₄ tk₄ m₄ oc₄ ce₄ fz₄ (S₄.drop hIne) (sb₁.trans (sb'.trans (sb₃.trans sb₄))) (.ret r) q)
  · have hie : i = Ys.length := by lia
    subst hie
    refine W.done _ _ _ hst fun h₂ tk₂ hk₂ => ?_
    exact wpAny_pure (.inr ⟨rfl, codeAny_block (wpAny_execs_nil (hP _ _ ρ' σ' h₂ tk₂ m' oc' ce' fz' (S'.forget hIne tk₂ fun b o' hb e => hk₂ b o' (by simpa using hb) e) (sb₁.trans sb') .next (done ρ' σ' hJ')))⟩)
theorem wss_forT {target : Expr} {pos : Pos} {iter : Expr} {body rest : List Stmt} {Q : Fl → Env₁ → Store → Prop} (J : Nat → Env₁ → Store → Prop)
    (h : We g c ρ σ iter fun X σ₁ => ∃ Ys, Itr g X Ys ∧ J 0 ρ σ₁ ∧ (∀ i Y ρ' σ', Ys[i]? = some Y → J i ρ' σ' → Wb g c ρ' σ' [Y] (op1 (assign target c.env)) fun ρ₂ σ₂ => Wss g c ρ₂ σ₂ body (TurnM (J Ys.length) Q (J (i + 1)))) ∧ ∀ ρ' σ', J Ys.length ρ' σ' → Wss g c ρ' σ' rest Q)
    (he : c.env = c.fenv := by rfl) (hs : ∀ x, foldedSetIterable iter c.env x = pure x := by intro _; rfl) : Wss g c ρ σ (.For target iter body [] pos :: rest) Q := by
  refine wss_cons (wx_forT J (h.mono fun X σ₁ q => ?_) he hs)
  obtain ⟨Ys, e, j, turn, behind⟩ := q
  refine ⟨Ys, e, j, fun i Y ρ' σ' hY hJ A h₀ s m oc ob ce fz vs S R P hP => turn i Y ρ' σ' hY hJ A h₀ s m oc ob ce fz vs S R P fun ρ₂ σ₂ h' tk' m' oc' ce' fz' S' sb q => hP ρ₂ σ₂ h' tk' m' oc' ce' fz' S' sb (Ws.mono q fun fl ρ₃ σ₃ z => ?_), behind⟩
  cases fl with
  | next => exact z
  | cont => exact z
  | brk => exact behind _ _ z
  | ret X => exact z

theorem wss_for {x : Str} {px pos : Pos} {iter : Expr} {body rest : List Stmt} {Q : Fl → Env₁ → Store → Prop} (J : Nat → Env₁ → Store → Prop)
    (h : We g c ρ σ iter fun X σ₁ => ∃ Vs, X = .list Vs ∧ J 0 ρ σ₁ ∧ (∀ i Y ρ' σ', Vs[i]? = some Y → J i ρ' σ' → Wss g c ((x, Y) :: ρ') σ' body (TurnM (J Vs.length) Q (J (i + 1)))) ∧ ∀ ρ' σ', J Vs.length ρ' σ' → Wss g c ρ' σ' rest Q)
    (he : c.env = c.fenv := by rfl) (hk : Keeps' c x := by exact .inl rfl) (hs : ∀ x, foldedSetIterable iter c.env x = pure x := by intro _; rfl) : Wss g c ρ σ (.For (.Name x px) iter body [] pos :: rest) Q :=
  wss_forT J (h.mono fun _ _ ⟨Vs, e, j, t, b⟩ => ⟨Vs, e ▸ itr_list g Vs, j, fun i Y ρ' σ' hY hJ => wb_name (t i Y ρ' σ' hY hJ) he hk, b⟩) he hs

/-! ## a list that turns, read -/
/-- .. is it empty? -/
theorem wt_cell {e : Expr} {Q : Bool → Store → Prop} (hp : isTrue e c.env (eval e c.env) = (do let v ← eval e c.env; standAt e.pos; holding [v] (truthy v)) := by rfl)
    (h : We g c ρ σ e fun X σ' => ∃ a Xs, X = .cell a ∧ σ'.lookup a = some (.list Xs) ∧ Xs.length ≤ 2 ^ 20 ∧ Q (!Xs.isEmpty) σ') : Wt g c ρ σ e Q := by
  intro A h₀ s m oc ob ce fz vs S R P hP
  show wpAny _ _ (isTrue e c.env (eval e c.env)) _ _ s
  rw [hp]
  refine wpAny_bind (h A h₀ s m oc ob ce fz _ S .nil _ fun a X σ₁ h₁ tk₁ ce₁ fz₁ S₁ sb₁ ra q => ?_)
  obtain ⟨l, Xs, rfl, hl, hz, q⟩ := q
  cases ra
  obtain ⟨o, hmo, hco⟩ := S₁.cs.find hl
  cases hco with
  | @list us k _ hrs =>
  refine wpAny_bind (wpAny_standAt (wpAny_holding (wpAny_truthy_list (items := us.toArray) ⟨_, (S₁.Nc _ hmo).1, rfl, k, rfl⟩ (by rw [List.size_toArray, hrs.length]; lia) ?_)))
  have e : (!us.toArray.isEmpty) = !Xs.isEmpty := by
    cases hrs <;> rfl
  rw [e]
  exact hP _ _ σ₁ h₁ _ ce₁ fz₁ (S₁.toks _) sb₁ rfl q
theorem tuple_cell {a : Addr} {Xs : List V} {Q : V → Store → Prop} (hl : σ.lookup a = some (.list Xs)) (hz : Xs.length ≤ 2 ^ 20) (h : Q (.tup Xs) σ) : Wp g c ρ σ [.cell a] Rep (fun vs => call (.type "tuple") vs) Q := by
  intro A h₀ s m oc ob ce fz vs S R P hP
  cases R with
  | cons ra R => cases R with
    | nil =>
    cases ra
    obtain ⟨o, hmo, hco⟩ := S.cs.find hl
    cases hco with
    | @list us k _ hrs =>
    refine call_tuple_list (items := us.toArray) ⟨_, (S.Nc _ hmo).1, rfl, k, rfl⟩ (fun h' hk => ?_) (by rw [List.size_toArray, hrs.length, sizeLine_eq]; lia)
    have S₁ := (S.keeps s.toks hk).push (tupO us 0) rfl s.toks
    exact hP _ _ σ _ s.toks ce _ S₁ (Sub.cons _ _) (.tup (.head _) (hrs.mono (Sub.cons _ _))) h
end
-- W18
section
variable {prog : Program} {w : World} {A : Around} {E : Value → Shared → Prop} {s : Shared}
theorem list_sort_one {a : Addr} {v : Value} {n : Nat} {P : Fin → Shared → Prop} (ho : s.heap.get? a = some (seqObj "list" [v].toArray n))
    (h : P (.done (.ret .none)) { s with heap := sortedHeap s.heap a [v] [v].toArray }) :
    wpAny (model prog w) A (Builtin.«list.sort» ⟨[.ref a], []⟩) P E s := by
  rw [list_sort_plain]
  have ha : a < s.heap.objs.size := Heap.lt_size ho
  refine wpAny_bind (listItems_at ho rfl ?_)
  refine wpAny_bind (listUpdate_at ho rfl ?_)
  obtain ⟨e1, ho1⟩ : ∃ e1, (s.heap.update a (Obj.mapSeq fun _ => #[])).get? a = some (seqObj "list" #[] e1) := ⟨_, get?_update_seq ho (fun _ => #[])⟩
  refine wpAny_bind (seqEpoch_at ho1 rfl ?_)
  refine wpAny_bind (wpAny_newTuple ?_)
  refine wpAny_bind (wpAny_newList ?_)
  refine wpAny_holding ?_
  have ho6 : (((s.heap.update a (Obj.mapSeq fun _ => #[])).push (seqObj "tuple" [v].toArray 0)).push (seqObj "list" #[] 0)).get? a = some (seqObj "list" #[] e1) := by
    rw [Heap.get?_push_ne _ _ _ (by rw [size_push', Heap.size_update]; exact Nat.ne_of_lt (Nat.lt_succ_of_lt ha)), Heap.get?_push_ne _ _ _ (by rw [Heap.size_update]; exact Nat.ne_of_lt ha)]
    exact ho1
  show wpAny (model prog w) A _ P E { s with heap := ((s.heap.update a (Obj.mapSeq fun _ => #[])).push (seqObj "tuple" [v].toArray 0)).push (seqObj "list" #[] 0) }
  dsimp only
  have h2 : [v].toArray.size < 2 := by simp
  rw [if_pos h2, if_pos h2]
  refine wpAny_bind (wpAny_pure ?_)
  rw [StateT.run_pure]
  refine wpAny_bind (wpAny_pure ?_)
  dsimp only
  refine wpAny_bind (seqEpoch_at ho6 rfl ?_)
  have ez : Array.map (fun x => x.snd) (arrOf (SortSt.mk' general' ([v].toArray.zip [v].toArray) #[] 7 none)) = [v].toArray := by first | rfl | (simp [arrOf, SortSt.mk'])
  rw [ez]
  refine wpAny_bind (listUpdate_at ho6 rfl ?_ (hsz2 := by exact Nat.le_of_ble_eq_true rfl))
  simp only [bne_self_eq_false, Bool.false_eq_true, if_false]
  exact wpAny_pure h
theorem sorted_one {l : Addr} {v : Value} {Q : Value → Shared → Prop} (hl : s.heap.IsList l [v].toArray)
    (h : Q (.ref (s.heap.objs.size + 1)) { s with heap := sortedAll s.heap [v] [v].toArray }) :
    wpAny (model prog w) A (call (.builtin "sorted") [.ref l]) Q E s := by
  refine Calls.call_function_entry kind_sorted plain_sorted entry_sorted (args_sorted1 _) ?_
  unfold Builtin.«sorted»
  refine wpAny_bind (m := checkCount "sorted" 1 1 _) (wpAny_pure ?_)
  refine wpAny_bind (collect_list hl ?_)
  refine wpAny_bind (wpAny_newList ?_)
  have hsz : ((s.heap.push (seqObj "list" #[] 0)).update s.heap.objs.size (Obj.mapSeq (· ++ [v].toArray))).objs.size = s.heap.objs.size + 1 := by
    rw [Heap.size_update, size_push']
  have hoL : (((s.heap.push (seqObj "list" #[] 0)).update s.heap.objs.size (Obj.mapSeq (· ++ [v].toArray))).push (seqObj "list" [v].toArray 0)).get? (s.heap.objs.size + 1) = some (seqObj "list" [v].toArray 0) := by
    rw [← hsz]; exact Heap.get?_push_size _ rfl
  show wpAny _ _ _ _ _ { s with heap := ((s.heap.push (seqObj "list" #[] 0)).update s.heap.objs.size (Obj.mapSeq (· ++ [v].toArray))).push (seqObj "list" [v].toArray 0) }
  rw [hsz]
  refine wpAny_bind (wpAny_holding (wpAny_call_entry slot_list_sort ⟨_, hoL, rfl⟩ entry_list_sort (list_sort_one hoL ⟨_, rfl, ?_⟩) (args_list_sort _)))
  exact wpAny_pure ⟨_, rfl, h⟩
end
section
variable {g : G} {c : Cfg} {ρ : Env₁} {σ : Store}
theorem St.ofNewsAt {A : Around} {h₀ : Heap} {s : Shared} {m : Str → Option Value} {oc ob ce fz : Led} (S : St g c ρ A h₀ s m oc ob ce fz σ) {h' : Heap} {o : Obj} {a : Addr} (tk : Nat) (ha : s.heap.objs.size ≤ a) (F' : Fr h₀ c.fenv.locals h' m) (N' : News h₀ c.fenv.locals h' ((a, o) :: ((oc ++ ob) ++ (ce ++ fz)))) :
    St g c ρ A h₀ { s with heap := h', toks := tk } m oc ob ce ((a, o) :: fz) σ := by
  have sb : Sub fz ((a, o) :: fz) := Sub.cons _ _
  refine ⟨S.cx, S.ek, S.eg, S.eb, F', fun p hp => N' p ?_, S.nd, fun p hp q hq => ?_, S.cs.mono sb, S.lr.mono sb, S.cl⟩
  · simp only [List.mem_append, List.mem_cons] at hp ⊢
    rcases hp with (h | h) | h | h | h <;> simp [h]
  · rcases List.mem_cons.mp hq with rfl | hq
    · exact Nat.ne_of_lt (Nat.lt_of_lt_of_le (Heap.lt_size ((S.all p hp) p (.head _)).1) ha)
    · exact S.off p hp q hq
theorem tuple_list' {Xs : List V} {Q : V → Store → Prop} (hz : Xs.length ≤ 2 ^ 20) (h : Q (.tup Xs) σ) : Wp g c ρ σ [.list Xs] Rep (fun vs => call (.type "tuple") vs) Q :=
  wp_call1 fun A h₀ s m oc ob ce fz x S rx P hP => by
    cases rx with
    | @list l us k _ hm hrs =>
    refine call_tuple_list (items := us.toArray) ⟨_, (S.Nz _ hm).1, rfl, k, rfl⟩ (fun h' hk => ?_) (by rw [List.size_toArray, hrs.length, sizeLine_eq]; lia)
    have S₁ := (S.keeps s.toks hk).push (tupO us 0) rfl s.toks
    exact hP _ _ _ s.toks _ S₁ (Sub.cons _ _) (.tup (.head _) (hrs.mono (Sub.cons _ _))) h
theorem sorted_cell1 {a : Addr} {X : V} {Q : V → Store → Prop} (hl : σ.lookup a = some (.list [X])) (h : Q (.list [X]) σ) : Wp g c ρ σ [.cell a] Rep (fun vs => call (.builtin "sorted") vs) Q := by
  intro A h₀ s m oc ob ce fz vs S R P hP
  cases R with
  | cons ra R => cases R with
    | nil =>
    cases ra
    obtain ⟨o, hmo, hco⟩ := S.cs.find hl
    cases hco with
    | @list us k _ hrs =>
    cases hrs with
    | cons r1 hrs => cases hrs with
      | nil =>
      rename_i u
      refine sorted_one (v := u) ⟨_, (S.Nc _ hmo).1, rfl, k, rfl⟩ ?_
      obtain ⟨e, he⟩ := sortedAll_at s.heap [u] [u].toArray
      have S' := S.ofNewsAt s.toks (Nat.le_succ _) (S.F.kept fun _ _ => sortedAll_old) (S.N.kept_cons S.F (fun _ _ => sortedAll_old) (Nat.le_succ _) he)
      exact hP _ (.list [X]) σ _ s.toks ce _ S' (Sub.cons _ _) (.list (vs := [u]) (n := e) (.head _) (.cons (r1.mono (Sub.cons _ _)) .nil)) h
theorem strs_reps {fz : Led} : ∀ {vs : List Value} {ys : List Str}, StrsAre vs ys → Reps fz vs (ys.map V.str)
  | _, _, .nil => .nil
  | _, _, .cons _ _ h => .cons .str (strs_reps h)
theorem sorted_strs' {ws : List Str} {Q : V → Store → Prop} (hz : ws.length < 64) (h : ∀ ws' : List Str, ws'.Perm ws → sortedS ws' = true → Q (.list (ws'.map V.str)) σ) : Wp g c ρ σ [.list (ws.map V.str)] Rep (fun vs => call (.builtin "sorted") vs) Q :=
  wp_call1 fun A h₀ s m oc ob ce fz x S rx P hP => by
    cases rx with
    | @list l vs n _ hm hr =>
    have hS := strs_are hr
    refine sorted_N_str S.F S.N ⟨_, (S.Nz _ hm).1, rfl, n, rfl⟩ hS (by rw [hr.length, List.length_map]; exact hz) fun h' vs' ss' e F' N' a1 a2 a3 => ?_
    have S' := S.ofNewsAt s.toks (Nat.le_succ _) F' N'
    exact hP _ (.list (ss'.map V.str)) h' s.toks _ S' (Sub.cons _ _) (.list (vs := vs') (n := e) (.head _) (strs_reps a1)) (h ss' a2 a3)
end
-- W19
section
variable {prog : Program} {w : World} {A : Around} {E : Value → Shared → Prop} {s : Shared}
/-- an attribute that a list does not bear, asked for -/
theorem getAttr?_miss_list {a : Addr} {o : Obj} {xs : Array Value} {k : Nat} {name : Str} {Q : Option Value → Shared → Prop}
    (hx : s.heap.get? a = some o) (hc : o.cls = .type "list") (hdat : o.data = .seq xs k) (hd : o.dict = none) (hmiss : typeLookup (.type "list") name = pure none) (hname : (["__module__", "__name__", "__qualname__", "__doc__", "__annotations__"] : List Str).contains name = false) (hA : A.handled = none)
    (h : ∀ h' tk, (∀ b ob, s.heap.get? b = some ob → h'.get? b = some ob) → Q none { s with heap := h', toks := tk }) (hsz : name.length + 100 ≤ sizeLine) :
    wpAny (model prog w) A (getAttr? (.ref a) name) Q E s := by
  obtain ⟨c, dct, dat, sl⟩ := o
  simp only at hc hdat hd
  subst hc hdat hd
  obtain ⟨hp, g, d, tk, os⟩ := s
  have hT : ∀ tk', (⟨hp, g, d, tk', os⟩ : Shared).TypeIs (.ref a) "list" := fun _ => ⟨_, hx, rfl⟩
  have f1 := sub_AttributeError
  have f3 := F.slot_list_getattribute.lookup
  have f4 := F.slot_list_getattribute.bind (.ref a)
  have f5 := am_list_getattr_none
  unfold getAttr? getAttrBy? getAttrBy
  repeat (any_goals (first | assumption | exact hT _ | ((with_reducible show wpAny _ _ (call (Value.builtin "list.__getattribute__") _ _) _ _ _); refine call_meets F.slot_list_getattribute (hT _) am_entry_list_getattribute (F.args_list_getattribute_2 _ _) (meets_getattribute_miss_list a xs k sl name _ hmiss hname hsz) ⟨hx, hA, fun h' tk' e hx' => ?_⟩) | wp_step))
  obtain ⟨t', u', he⟩ := hx'.there
  show wpAny _ _ (getattributeRaised _ _ _ _ _ _ _) _ _ _
  unfold getattributeRaised
  repeat (any_goals (first | assumption | wp_step))
  exact h _ _ hx'.keeps

def addK (ks : List Str) (k : Str) : List Str := if ks.any (fun x => x = k) then ks else ks ++ [k]
def dedup (ws : List Str) : List Str := ws.foldl addK []
theorem stored_keys (kvs : List (Str × Value)) (k : Str) (v : Value) : (stored kvs k v).map (·.1) = addK (kvs.map (·.1)) k := by
  unfold stored addK
  have e : (kvs.any fun kv => kv.1 = k) = (kvs.map (·.1)).any (fun x => x = k) := by rw [List.any_map]; rfl
  rw [← e]
  split
  · rw [List.map_map]
    refine List.map_congr_left fun p _ => ?_
    simp only [Function.comp]
    split <;> rfl
  · rw [List.map_append]; rfl
theorem typeLookup_list_keys : typeLookup (.type "list") "keys" = pure none := am_miss_of_fast (by decide +kernel)
theorem plain_update_loop : plainId "dict.update.loop" = true := by decide +kernel
theorem entry_update_loop : entryFor table "dict.update.loop" = some Builtin.«dict.update.loop» := entryFor_of_fast (by kernel_rfl)
/-- the pairs of a list, laid into a dict -/
def PairAt (h : Heap) (v : Value) (k : Str) : Prop := ∃ (a : Addr) (t : Tok) (u : Value) (n : Nat), v = .ref a ∧ h.get? a = some (tupO [.str k t, u] n)
theorem update_loop {I l d : Addr} {vs : List Value} {ws : List Str} {h₀ : Heap} {R : Result → Shared → Prop} (hh : A.handled = none) (hlen : vs.length = ws.length) (hz : ws.length ≤ 2 ^ 20)
    (hp : ∀ (i : Nat) (v : Value), vs[i]? = some v → ∃ k, ws[i]? = some k ∧ PairAt h₀ v k) (hdI : d ≠ I) (hd₀ : h₀.get? d = none) (hI₀ : h₀.get? I = none) (hlI : l ≠ I) (hl : h₀.IsList l vs.toArray)
    (hR : ∀ h' tk kvs, h'.DictOf (PySem.strKind prog w) d kvs → kvs.map (·.1) = dedup ws → (∀ b o, h₀.get? b = some o → h'.get? b = some o) → R (.ok (.ret .none)) { s with heap := h', toks := tk }) :
    ∀ (k i : Nat) (h : Heap) (tk : Nat) (kvs : List (Str × Value)), ws.length - i = k → i ≤ ws.length → h.IsListIter I l i → (∀ b o, h₀.get? b = some o → h.get? b = some o) → h.DictOf (PySem.strKind prog w) d kvs → kvs.map (·.1) = dedup (ws.take i) → kvs.length ≤ i →
      codeAny (model prog w) A (.builtin "dict.update.loop" ⟨[.ref d, .ref I, rawInt i, .none], []⟩) R { s with heap := h, toks := tk } := by
  intro k
  have lift : ∀ {h : Heap} {b : Addr} {o : Obj}, h₀.get? b = some o → b ≠ d ∧ b ≠ I := by
    intro h b o e
    refine ⟨fun e' => ?_, fun e' => ?_⟩
    · rw [e', hd₀] at e; cases e
    · rw [e', hI₀] at e; cases e
  induction k with
  | zero =>
    intro i h tk kvs hk hi hit old hD hkeys hle
    have hin : i = ws.length := by lia
    subst hin
    have hl' : h.IsList l vs.toArray := let ⟨o, ho, r⟩ := hl; ⟨o, old _ _ ho, r⟩
    have W := Walks.list (prog := prog) (w := w) (A := A.in1) hh I l hlI vs.toArray
    refine codeAny_builtin entry_update_loop ?_
    rw [Around.under_plainId plain_update_loop _]
    show wpAny _ A.in1 (pyNext (.ref I) >>= _) _ _ _
    refine wpAny_bind (W.done _ _ _ ⟨by rw [List.size_toArray, hlen]; exact hit, hl'⟩ fun h' tk' hk' => ?_)
    show wpAny _ A.in1 (Builtin.Dict.addKeywords d [] >>= _) _ _ _
    refine wpAny_bind (wpAny_pure (wpAny_pure ?_))
    rw [List.take_length] at hkeys
    obtain ⟨o, es, ep, ho, r⟩ := hD
    exact hR h' tk' kvs ⟨o, es, ep, hk' _ _ (by simpa using hdI) ho, r⟩ hkeys fun b o e => hk' _ _ (by simpa using (lift (h := h) e).2) (old b o e)
  | succ k ih =>
    intro i h tk kvs hk hi hit old hD hkeys hle
    have hlt : i < ws.length := by lia
    have hl' : h.IsList l vs.toArray := let ⟨o, ho, r⟩ := hl; ⟨o, old _ _ ho, r⟩
    have W := Walks.list (prog := prog) (w := w) (A := A.in1) hh I l hlI vs.toArray
    refine codeAny_builtin entry_update_loop ?_
    rw [Around.under_plainId plain_update_loop _]
    show wpAny _ A.in1 (pyNext (.ref I) >>= _) _ _ _
    refine wpAny_bind (W.item i _ _ _ (by rw [List.size_toArray, hlen]; exact hlt) ⟨hit, hl'⟩ fun v h' tk' hv st' hk' => ?_)
    have hv' : vs[i]? = some v := by simpa using hv
    obtain ⟨key, hkey, a, t, u, n, rfl, ha⟩ := hp i v hv'
    have old' : ∀ b o, h₀.get? b = some o → h'.get? b = some o := fun b o e => hk' _ _ (by simpa using (lift (h := h) e).2) (old b o e)
    have hD' : h'.DictOf (PySem.strKind prog w) d kvs := let ⟨o, es, ep, ho, r⟩ := hD; ⟨o, es, ep, hk' _ _ (by simpa using hdI) ho, r⟩
    have ha' := old' _ _ ha
    refine wpAny_bind (wpAny_holding (wpAny_bind (wpAny_tryCatch ?_)))
    unfold Builtin.Dict.pairItems
    refine wpAny_bind (wpAny_typeOf (T := "tuple") ⟨_, ha', rfl⟩ ?_)
    rw [if_pos (by decide)]
    refine wpAny_bind (wpAny_seqItems ha' rfl (wpAny_pure ?_))
    show wpAny _ A.in1 (holding [.str key t, u] (dictSet d (.str key t) u)) _ _ _
    refine wpAny_holding (wpAny_dictSet_pairs (knd := PySem.strKind prog w) (k := key) (by simp [PySem.strKind, Value.isStrOf]) hD' (fun h₂ hD₂ hs₂ => ?_) (by rw [sizeLine_eq]; lia))
    refine wpAny_pure ⟨plainId_quiet plain_update_loop _, ?_⟩
    have hst := st'.1
    refine ih (i + 1) h₂ _ _ (by lia) hlt ?_ (fun b o e => (hs₂.2 _ (lift (h := h) e).1).trans (old' b o e)) hD₂ ?_ ?_
    · obtain ⟨o, ho, r⟩ := hst
      exact ⟨o, (hs₂.2 _ (Ne.symm hdI)).trans ho, r⟩
    · rw [stored_keys, hkeys, List.take_add_one, hkey]
      simp only [Option.toList_some, dedup, List.foldl_append, List.foldl_cons, List.foldl_nil]
    · unfold stored
      split
      · simp only [List.length_map]; lia
      · simp only [List.length_append, List.length_cons, List.length_nil]; lia
theorem call_dict_pairs {l : Addr} {vs : List Value} {ws : List Str} {n : Nat} {Q : Value → Shared → Prop} (hh : A.handled = none) (hlen : vs.length = ws.length) (hz : ws.length ≤ 2 ^ 20)
    (hl : s.heap.get? l = some (lstO vs n)) (hp : ∀ (i : Nat) (v : Value), vs[i]? = some v → ∃ k, ws[i]? = some k ∧ PairAt s.heap v k)
    (h : ∀ h' tk kvs, h'.DictOf (PySem.strKind prog w) s.heap.objs.size kvs → kvs.map (·.1) = dedup ws → (∀ b o, s.heap.get? b = some o → h'.get? b = some o) → Q (.ref s.heap.objs.size) { s with heap := h', toks := tk }) :
    wpAny (model prog w) A (call (.type "dict") [.ref l]) Q E s := by
  refine callType_codes (Q₁ := fun obj s₁ => obj = .ref s.heap.objs.size ∧ s₁ = { s with heap := s.heap.push { cls := .type "dict", data := .dict #[] } }) F.kt_called_dict (F.kt_typeCall_dict_1 _) F.entry_dict_init (kt_code_dict_new _ ⟨rfl, rfl⟩) ?_
  rintro obj s₁ ⟨rfl, rfl⟩
  have hnew : (s.heap.push { cls := .type "dict", data := .dict #[] }).DictOf (PySem.strKind prog w) s.heap.objs.size [] := Heap.DictOf.new s.heap
  have hl' : (s.heap.push { cls := .type "dict", data := .dict #[] }).get? l = some (lstO vs n) := Heap.get?_push_of_some _ hl
  refine ⟨hnew.typeIs, F.args_dict_init_2 _ _, ?_⟩
  unfold Builtin.«dict.__init__»
  refine wpAny_bind ?_
  unfold Builtin.Dict.selfAndRest
  refine wpAny_bind (wpAny_notOrdered_dict hnew.typeIs ?_)
  show wpAny _ _ (pure (s.heap.objs.size, [Value.ref l])) _ _ _
  refine wpAny_pure ?_
  show wpAny _ _ (Builtin.Dict.updateFrom "dict.__init__" s.heap.objs.size (.ref l) [] .none) _ _ _
  unfold Builtin.Dict.updateFrom
  refine wpAny_bind (wpAny_typeOf (T := "list") ⟨_, hl', rfl⟩ ?_)
  rw [if_pos (by decide)]
  refine wpAny_bind (getAttr?_miss_list hl' rfl rfl rfl typeLookup_list_keys (by decide) hh (fun h₁ tk₁ k₁ => ?_) (by decide))
  rw [if_pos (by rfl)]
  refine wpAny_bind (wpAny_rule ?_)
  have hl₁ : h₁.IsList l vs.toArray := ⟨_, k₁ _ _ hl', rfl, n, rfl⟩
  refine wpAny_bind (wpAny_pyIter_list hl₁ ?_)
  refine wpAny_pure ⟨plainId_quiet plain_update_loop _, ?_⟩
  have hd₁ : s.heap.objs.size < h₁.objs.size := Heap.lt_size (k₁ _ _ (Heap.get?_push_size _ rfl))
  have hll : l < h₁.objs.size := Heap.lt_size (k₁ _ _ hl')
  have fin := update_loop (prog := prog) (w := w) (A := A.in1) (R := wants (fun r s₂ => r = .none ∧ Q (.ref s.heap.objs.size) s₂) E) (I := h₁.objs.size) (d := s.heap.objs.size) (s := s) (l := l) (h₀ := s.heap) hh hlen hz hp (Nat.ne_of_lt hd₁) (Heap.get?_none_of_le (Nat.le_refl _)) (Heap.get?_none_of_le (Nat.le_of_lt hd₁)) (Nat.ne_of_lt hll) ⟨lstO vs n, hl, rfl, n, rfl⟩ (fun h' tk kvs a1 a2 a3 => ⟨rfl, h h' tk kvs a1 a2 a3⟩) ws.length 0 (h₁.push { cls := .type "list_iterator", data := .fields #[.ref l, .int 0 0] }) tk₁ [] (by lia) (Nat.zero_le _)
    ⟨_, Heap.get?_push_size _ rfl, rfl, rfl⟩ (fun b o e => Heap.get?_push_of_some _ (k₁ _ _ (Heap.get?_push_of_some _ e))) (by
      obtain ⟨o', es, ep, ho, r⟩ := hnew
      exact ⟨o', es, ep, Heap.get?_push_of_some _ (k₁ _ _ ho), r⟩) rfl (Nat.le_refl _)
  exact fin
end
-- W20
/-! ## plain data, compared -/
mutual
inductive Dat : V → PyData → Prop
  | str {x : Str} : PyData.strOk x = true → Dat (.str x) (.str x)
  | int {i : Int} : Dat (.int i) (.int i)
  | tup {Xs : List V} {ds : List PyData} : Dats Xs ds → Dat (.tup Xs) (.tuple ds)
  | list {Xs : List V} {ds : List PyData} : Dats Xs ds → Dat (.list Xs) (.list ds)
inductive Dats : List V → List PyData → Prop
  | nil : Dats [] []
  | cons {X : V} {d : PyData} {Xs : List V} {ds : List PyData} : Dat X d → Dats Xs ds → Dats (X :: Xs) (d :: ds)
end
mutual
theorem Dat.lay : ∀ {X : V} {d : PyData}, Dat X d → d.canLay0 = true
  | _, _, .str h => by rw [PyData.canLay0]; exact h
  | _, _, .int => by rw [PyData.canLay0]
  | _, _, .tup h => by rw [PyData.canLay0]; exact h.lay
  | _, _, .list h => by rw [PyData.canLay0]; exact h.lay
theorem Dats.lay : ∀ {Xs : List V} {ds : List PyData}, Dats Xs ds → PyData.canLayAll0 ds = true
  | _, _, .nil => by rw [PyData.canLayAll0]
  | _, _, .cons h k => by rw [PyData.canLayAll0, h.lay, k.lay]; rfl
end
mutual
theorem Dat.reads {fz : Led} {h : Heap} (hz : ∀ p ∈ fz, h.get? p.1 = some p.2) : ∀ {X : V} {d : PyData} {v : Value}, Dat X d → Rep fz v X → ∃ as, Reads h v d as
  | _, _, _, .str _, .str => ⟨_, .str _ _⟩
  | _, _, _, .int, .int => ⟨_, .int _ _⟩
  | _, _, _, .tup k, .tup hm hr => let ⟨as, r⟩ := k.reads hz hr; ⟨_, .tuple (hz _ hm) rfl rfl (by rw [List.toList_toArray]; exact r)⟩
  | _, _, _, .list k, .list hm hr => let ⟨as, r⟩ := k.reads hz hr; ⟨_, .list (hz _ hm) rfl rfl (by rw [List.toList_toArray]; exact r)⟩
theorem Dats.reads {fz : Led} {h : Heap} (hz : ∀ p ∈ fz, h.get? p.1 = some p.2) : ∀ {Xs : List V} {ds : List PyData} {vs : List Value}, Dats Xs ds → Reps fz vs Xs → ∃ as, ReadsAll h vs ds as
  | _, _, _, .nil, .nil => ⟨_, .nil⟩
  | _, _, _, .cons a b, .cons c d => let ⟨as, r⟩ := a.reads hz c; let ⟨bs, q⟩ := b.reads hz d; ⟨_, .cons r q⟩
end
section
variable {g : G} {c : Cfg} {ρ : Env₁} {σ : Store}
theorem eq_same {X : V} {d : PyData} {Q : V → Store → Prop} (hd : Dat X d) (hz : d.depth ≤ 8 * c.d) (h : Q (.bool true) σ) : Wp g c ρ σ [X, X] Rep (op2 (compareOp .Eq)) Q :=
  wp_pure2 fun A h₀ s m oc ob ce fz x y S rx ry P hP => by
    obtain ⟨as, ra⟩ := hd.reads (fun p hp => (S.Nz p hp).1) rx
    obtain ⟨bs, rb⟩ := hd.reads (fun p hp => (S.Nz p hp).1) ry
    refine SeqAt.compareEq_reads ra rb hd.lay hd.lay ?_ ?_
    · have := S.cx.units
      rw [Nat.min_self]; lia
    · rw [SeqAt.eqv_refl d hd.lay]
      exact hP _ (.bool true) s.heap s.toks fz S (Sub.refl _) .bool h
theorem ne_same {X : V} {d : PyData} {Q : V → Store → Prop} (hd : Dat X d) (hz : d.depth ≤ 8 * c.d) (h : Q (.bool false) σ) : Wp g c ρ σ [X, X] Rep (op2 (compareOp .NotEq)) Q :=
  wp_pure2 fun A h₀ s m oc ob ce fz x y S rx ry P hP => by
    obtain ⟨as, ra⟩ := hd.reads (fun p hp => (S.Nz p hp).1) rx
    obtain ⟨bs, rb⟩ := hd.reads (fun p hp => (S.Nz p hp).1) ry
    refine SeqAt.compareNe_reads ra rb hd.lay hd.lay ?_ ?_
    · have := S.cx.units
      rw [Nat.min_self]; lia
    · rw [SeqAt.eqv_refl d hd.lay]
      exact hP _ (.bool false) s.heap s.toks fz S (Sub.refl _) .bool h

/-! ## max of a list -/
theorem ints_are {fz : Led} : ∀ {vs : List Value} {ns : List Int}, Reps fz vs (ns.map V.int) → IntsAre vs ns
  | _, [], .nil => .nil
  | _, _ :: _, .cons .int h => .cons _ _ (ints_are h)
theorem max_list' {ns : List Int} {Q : V → Store → Prop} (hne : 0 < ns.length) (h : ∀ M, M ∈ ns → (∀ a ∈ ns, a ≤ M) → Q (.int M) σ) : Wp g c ρ σ [.list (ns.map V.int)] Rep (fun vs => call (.builtin "max") vs) Q :=
  wp_call1 fun A h₀ s m oc ob ce fz x S rx P hP => by
    cases rx with
    | @list l us k _ hm hrs =>
    exact max_list_N S.cx.hh S.F S.N ⟨_, (S.Nz _ hm).1, rfl, k, rfl⟩ (ints_are hrs) hne fun h' M t tk F' N' a1 a2 => hP _ (.int M) h' tk fz (S.ofSame tk F' N') (Sub.refl _) .int (h M a1 a2)

/-! ## list(dict(pairs)) -/
theorem St.ofNewsLt {A : Around} {h₀ : Heap} {s : Shared} {m : Str → Option Value} {oc ob ce fz : Led} (S : St g c ρ A h₀ s m oc ob ce fz σ) {h' : Heap} {o : Obj} {a : Addr} (tk : Nat) (ha : ∀ q ∈ (oc ++ ob) ++ (ce ++ fz), q.1 < a) (F' : Fr h₀ c.fenv.locals h' m) (N' : News h₀ c.fenv.locals h' ((a, o) :: ((oc ++ ob) ++ (ce ++ fz)))) :
    St g c ρ A h₀ { s with heap := h', toks := tk } m oc ob ce ((a, o) :: fz) σ := by
  have sb : Sub fz ((a, o) :: fz) := Sub.cons _ _
  refine ⟨S.cx, S.ek, S.eg, S.eb, F', fun p hp => N' p ?_, S.nd, fun p hp q hq => ?_, S.cs.mono sb, S.lr.mono sb, S.cl⟩
  · simp only [List.mem_append, List.mem_cons] at hp ⊢
    rcases hp with (h | h) | h | h | h <;> simp [h]
  · rcases List.mem_cons.mp hq with rfl | hq
    · exact Nat.ne_of_lt (ha p (by simp only [List.mem_append] at hp ⊢; rcases hp with (h | h) | h <;> simp [h]))
    · exact S.off p hp q hq
abbrev pairT (w : Str) : V := .tup [.str w, .bool true]
theorem dedup_le : ∀ (ws ks : List Str), (ws.foldl addK ks).length ≤ ks.length + ws.length
  | [], ks => Nat.le_refl _
  | w :: ws, ks => by
    refine Nat.le_trans (dedup_le ws _) ?_
    unfold addK
    split <;> simp only [List.length_append, List.length_cons, List.length_nil] <;> lia
theorem we_list_dict {x y : Str} {p1 p2 pos pos' : Pos} {e : Expr} {Q : V → Store → Prop} (ex : nsIn (hd.heap_1 g.w.params) mainGlobals x = some none) (hx : bootBuiltins x = some (.type "list")) (ey : nsIn (hd.heap_1 g.w.params) mainGlobals y = some none) (hy : bootBuiltins y = some (.type "dict"))
    (h : We g c ρ σ e fun X σ' => ∃ ws : List Str, X = .list (ws.map pairT) ∧ ws.length ≤ 2 ^ 20 ∧ Q (.list ((dedup ws).map V.str)) σ')
    (hst : starEach [e] c.env = [(false, eval e c.env)] := by rfl) (hst' : starEach [.Call (.Name y p2) [e] [] pos'] c.env = [(false, eval (.Call (.Name y p2) [e] [] pos') c.env)] := by rfl)
    (kx : c.env.kindOf x = some .globalImplicit := by rfl) (ky : c.env.kindOf y = some .globalImplicit := by rfl) (nx : x ≠ "__name__" := by decide) (ny : y ≠ "__name__" := by decide) (dx : (x == ("__debug__" : Str)) = false := by decide) (dy : (y == ("__debug__" : Str)) = false := by decide) :
    We g c ρ σ (.Call (.Name x p1) [.Call (.Name y p2) [e] [] pos'] [] pos) Q := by
  intro A h₀ s m oc ob ce fz vs S R P hP
  show wpAny _ _ (eval (.Name x p1) c.env >>= fun f => callWith pos f [] (backTo pos (starEach [.Call (.Name y p2) [e] [] pos'] c.env)) []) _ _ s
  refine wpAny_bind (we_bltn ex hx (Q := fun X σ' => X = .raw (.type "list") ∧ σ' = σ) ⟨rfl, rfl⟩ kx nx dx A h₀ s m oc ob ce fz [] S .nil _ fun a X σ₁ h₁ tk₁ ce₁ fz₁ S₁ sb₁ ra q => ?_)
  obtain ⟨rfl, rfl⟩ := q
  cases ra
  refine callWith_type1 (he := hst') ?_
  rw [hst']
  refine spliced_cons ?_
  show wpAny _ _ (eval (.Name y p2) c.env >>= fun f => callWith pos' f [] (backTo pos' (starEach [e] c.env)) []) _ _ _
  refine wpAny_bind (we_bltn ey hy (Q := fun X σ' => X = .raw (.type "dict") ∧ σ' = σ₁) ⟨rfl, rfl⟩ ky ny dy A h₀ _ m oc ob ce₁ fz₁ [] S₁ .nil _ fun a X σ₂ h₂ tk₂ ce₂ fz₂ S₂ sb₂ ra q => ?_)
  obtain ⟨rfl, rfl⟩ := q
  cases ra
  refine callWith_type1 (he := hst) ?_
  rw [hst]
  refine spliced_cons (h A h₀ _ m oc ob ce₂ fz₂ [] S₂ .nil _ fun a X σ₃ h₃ tk₃ ce₃ fz₃ S₃ sb₃ ra hq => ?_)
  obtain ⟨ws, rfl, hz, hq⟩ := hq
  refine spliced_nil ?_
  cases ra with
  | @list l us n _ hm hrs =>
  have hlen : us.length = ws.length := by rw [hrs.length, List.length_map]
  refine call_dict_pairs (ws := ws) (vs := us) S.cx.hh hlen hz (S₃.Nz _ hm).1 (fun i v hv => ?_) fun h₄ tk₄ kvs hD hk keep => ?_
  · have hlt : i < ws.length := by rw [← hlen]; exact (List.getElem?_eq_some_iff.mp hv).1
    have hY : (ws.map pairT)[i]? = some (pairT ws[i]) := by simp [hlt]
    obtain ⟨u, hu, ru⟩ := hrs.get hY
    rw [hv] at hu
    cases hu
    refine ⟨ws[i], by simp [hlt], ?_⟩
    cases ru with
    | @tup a' vs' n' _ hm' hr' =>
      cases hr' with
      | cons r1 hr' => cases hr' with
        | cons r2 hr' => cases hr' with
          | nil =>
            cases r1
            cases r2
            exact ⟨_, _, _, n', rfl, (S₃.Nz _ hm').1⟩
  · obtain ⟨o, hoD, hoo⟩ := Heap.dictOf_iff.mp hD
    have S₄ := S₃.ofNewsAt (a := h₃.objs.size) (o := o) tk₄ (Nat.le_refl _) (S₃.F.kept keep) (S₃.N.kept_cons S₃.F keep (Nat.le_refl _) hoD)
    refine spliced_nil ?_
    have lo : (h₃.objs.size == sysModules) = false := S₃.F.notModules (modules_low S.cx.T.nolimit)
    have hkl : kvs.length ≤ 2 ^ 20 := by
      have e1 : kvs.length = (dedup ws).length := by rw [← hk, List.length_map]
      have e2 := dedup_le ws []
      simp only [List.length_nil] at e2
      have : (dedup ws).length ≤ ws.length := by unfold dedup; lia
      lia
    refine kdl_list_keysS (o := o) S.cx.hh S₄.F S₄.N (by simp) hoo lo (by lia) fun B cc h₅ tk₅ => ?_
    have fin : ∀ (kvs : List (Str × Value)) (C : List Value → Prop), (∀ vs, StrsAre vs (kvs.map (·.1)) → C vs) → KdlKeysS kvs C := by
      intro kvs
      induction kvs with
      | nil => intro C hC; exact hC [] .nil
      | cons q r ih => intro C hC t; exact ih _ fun vs hvs => hC _ (.cons _ _ hvs)
    refine fin kvs _ fun vs' hvs' F' N' lt => ?_
    have S₅ := S₄.ofNewsLt (a := B) tk₅ lt F' N'
    rw [hk] at hvs'
    exact hP _ (.list ((dedup ws).map V.str)) σ₃ h₅ tk₅ ce₃ _ S₅ (sb₁.trans (sb₂.trans (sb₃.trans ((Sub.cons _ _).trans (Sub.cons _ _))))) (.list (vs := vs') (n := cc) (.head _) (strs_reps hvs')) hq
end
-- W21
theorem args_sum2 (a b : Value) : argsOk "sum" ⟨[a, b], []⟩ := by unfold argsOk; kernel_rfl
theorem sub_list_str' : isSubtype (.type "list") (.type "str") = pure false := by rw [isSubtype_type]; kernel_rfl
theorem sub_list_bytes' : isSubtype (.type "list") (.type "bytes") = pure false := by rw [isSubtype_type]; kernel_rfl
theorem sub_list_bytearray' : isSubtype (.type "list") (.type "bytearray") = pure false := by rw [isSubtype_type]; kernel_rfl
section
variable {g : G} {c : Cfg} {ρ : Env₁} {σ : Store}
theorem sum_loop_lists {A : Around} {h₀ : Heap} {s : Shared} {m : Str → Option Value} {oc ob ce fz : Led} {R : Result → Shared → Prop} {I l : Addr} {vs : List Value} {n : Nat} {rows : List (List V)} {T : Addr}
    (he : c.env = c.fenv) (hz : rows.flatten.length ≤ 2 ^ 20) (hm : (l, lstO vs n) ∈ fz) (hr : Reps fz vs (rows.map V.list))
    (hR : ∀ t h' tk' fz', St g c ρ A h₀ { s with heap := h', toks := tk' } m oc ob ce fz' σ → Sub fz fz' → Rep fz' t (.list rows.flatten) → R (.ok (.ret t)) { s with heap := h', toks := tk' }) :
    ∀ (k i : Nat) (h : Heap) (tk : Nat) (t : Value) (ct : Nat) (oI : Obj) (fz' : Led), rows.length - i = k → i ≤ rows.length → h.IsListIter I l i →
      St g c ρ A h₀ { s with heap := h, toks := tk } m oc ((T, { cls := .type "list", data := .seq #[t] ct }) :: (I, oI) :: ob) ce fz' σ → Sub fz fz' → Rep fz' t (.list (rows.take i).flatten) →
      codeAny (model PG g.w) A (.builtin "sum.loop" ⟨[.ref I, .ref T, rawInt 2, rawInt 0], []⟩) R { s with heap := h, toks := tk } := by
  intro k
  have hlen : vs.length = rows.length := by rw [hr.length, List.length_map]
  induction k with
  | zero =>
    intro i h tk t ct oI fz' hk hi hit S sb rt
    have hin : i = rows.length := by lia
    subst hin
    have nT := S.ownNe he
    have hS := (S.N (T, { cls := .type "list", data := .seq #[t] ct }) (by simp)).1
    have hl' : h.IsList l vs.toArray := ⟨_, (S.Nz _ (sb _ hm)).1, rfl, n, rfl⟩
    have hlI : l ≠ I := fun e => S.off (I, oI) (by simp) _ (sb _ hm) e.symm
    have W := Walks.list (prog := PG) (w := g.w) (A := A.in1) S.cx.hh I l hlI vs.toArray
    refine codeAny_builtin F.entry_sum_loop ?_
    rw [Around.under_plainId F.plain_sum_loop _]
    show wpAny _ A.in1 (seqItems? (.ref T) >>= _) _ _ _
    refine wpAny_bind (wpAny_seqItems hS rfl ?_)
    show wpAny _ A.in1 (tryCatch (pyNext (.ref I)) _ >>= _) _ _ _
    refine wpAny_bind (wpAny_tryCatch (W.done _ _ _ ⟨by rw [List.size_toArray, hlen]; exact hit, hl'⟩ fun h' tk' hk' => ?_))
    rw [List.take_length] at rt
    have nI : c.env.locals ≠ I := by
      rw [he]
      exact Ne.symm (S.N (I, oI) (by simp)).2.1
    have S₁ := ((S.perm (List.Perm.swap _ _ _)).forget nI tk' (h' := h') fun b o hb e => hk' _ _ (by simpa using hb) e).drop nT
    have fin := hR t h' tk' fz' S₁ sb rt
    cases rt with
    | @list a us n' _ hm' hr' => exact wpAny_pure fin
  | succ k ih =>
    intro i h tk t ct oI fz' hk hi hit S sb rt
    have hlt : i < rows.length := by lia
    have nT := S.ownNe he
    have nI : c.env.locals ≠ I := by
      rw [he]
      exact Ne.symm (S.N (I, oI) (by simp)).2.1
    have hS := (S.N (T, { cls := .type "list", data := .seq #[t] ct }) (by simp)).1
    have hl' : h.IsList l vs.toArray := ⟨_, (S.Nz _ (sb _ hm)).1, rfl, n, rfl⟩
    have hlI : l ≠ I := fun e => S.off (I, oI) (by simp) _ (sb _ hm) e.symm
    have W := Walks.list (prog := PG) (w := g.w) (A := A.in1) S.cx.hh I l hlI vs.toArray
    refine codeAny_builtin F.entry_sum_loop ?_
    rw [Around.under_plainId F.plain_sum_loop _]
    show wpAny _ A.in1 (seqItems? (.ref T) >>= _) _ _ _
    refine wpAny_bind (wpAny_seqItems hS rfl ?_)
    show wpAny _ A.in1 (tryCatch (pyNext (.ref I)) _ >>= _) _ _ _
    refine wpAny_bind (wpAny_tryCatch (W.item i _ _ _ (by rw [List.size_toArray, hlen]; exact hlt) ⟨hit, hl'⟩ fun v h₂ tk₂ hv st₂ hk₂ => ?_))
    obtain ⟨o₂, ho₂, r₂⟩ := st₂.1
    have S₂ := ((S.perm (List.Perm.swap _ _ _)).turn nI tk₂ ho₂ fun b o hb e => hk₂ b o (by simpa using hb) e).perm (List.Perm.swap _ _ _)
    have hv' : vs[i]? = some v := by simpa using hv
    have hY : (rows.map V.list)[i]? = some (.list rows[i]) := by simp [hlt]
    obtain ⟨u, hu, ru⟩ := hr.get hY
    rw [hv'] at hu
    cases hu
    have ru' := ru.mono sb
    have hsum : (rows.take i).flatten.length + rows[i].length ≤ rows.flatten.length := by
      have e1 : rows.take (i + 1) = rows.take i ++ [rows[i]] := by rw [List.take_add_one]; simp [hlt]
      have e2 : (rows.take (i + 1)).flatten.length ≤ rows.flatten.length := by
        conv => rhs; rw [← List.take_append_drop (i + 1) rows, List.flatten_append, List.length_append]
        lia
      rw [e1, List.flatten_append, List.length_append] at e2
      simpa using e2
    cases rt with
    | @list a us n₁ _ hm₁ hr₁ =>
    cases ru' with
    | @list b ws n₂ _ hm₂ hr₂ =>
    show wpAny _ A.in1 ((holding [Value.ref b] (binaryOp .Add (.ref a) (.ref b))).attempt >>= _) _ _ _
    refine wpAny_bind (wpAny_attempt (wpAny_holding (add_lists S₂.F S₂.N ⟨_, (S₂.Nz _ hm₁).1, rfl, n₁, rfl⟩ ⟨_, (S₂.Nz _ hm₂).1, rfl, n₂, rfl⟩ (fun h₃ F₃ N₃ => ?_) (by rw [hr₁.length, hr₂.length, sizeLine_eq]; lia))))
    have S₃ := S₂.ofNews tk₂ F₃ N₃
    have hS₃ := (S₃.N (T, { cls := .type "list", data := .seq #[Value.ref a] ct }) (by simp)).1
    show wpAny _ A.in1 (updateSeq T (fun _ => #[.ref h₂.objs.size]) >>= _) _ _ _
    refine wpAny_bind (wpAny_updateSeq hS₃ rfl ?_)
    obtain ⟨c₄, hc₄⟩ : ∃ c₄, (h₃.update T (Obj.mapSeq fun _ => #[Value.ref h₂.objs.size])).get? T = some (seqObj "list" #[Value.ref h₂.objs.size] c₄) := ⟨_, get?_update_seq hS₃ fun _ => #[Value.ref h₂.objs.size]⟩
    have S₄ := S₃.turn nT tk₂ hc₄ fun b o hb e => (Heap.get?_update_other _ _ (Ne.symm hb)).trans e
    refine wpAny_bind (wpAny_letGo ?_)
    obtain ⟨c₅, hc₅⟩ : ∃ c₅, ((h₃.update T (Obj.mapSeq fun _ => #[Value.ref h₂.objs.size])).update T (Obj.mapSeq fun _ => #[Value.ref h₂.objs.size])).get? T = some (seqObj "list" #[Value.ref h₂.objs.size] c₅) := ⟨_, get?_update_seq hc₄ fun _ => #[Value.ref h₂.objs.size]⟩
    have S₅ := S₄.turn nT tk₂ hc₅ fun b o hb e => (Heap.get?_update_other _ _ (Ne.symm hb)).trans e
    refine wpAny_bind (wpAny_updateSeq hc₄ rfl (wpAny_pure ⟨plainId_quiet F.plain_sum_loop _, ?_⟩))
    refine ih (i + 1) _ tk₂ _ c₅ o₂ _ (by lia) hlt ⟨o₂, ?_, r₂⟩ S₅ (sb.trans (Sub.cons _ _)) ?_
    · exact (S₅.N (I, o₂) (by simp)).1
    · have e1 : rows.take (i + 1) = rows.take i ++ [rows[i]] := by rw [List.take_add_one]; simp [hlt]
      have e2 : (rows.take (i + 1)).flatten = (rows.take i).flatten ++ rows[i] := by rw [e1, List.flatten_append]; simp
      rw [e2]
      exact .list (.head _) ((hr₁.append hr₂).mono (Sub.cons _ _))
theorem sum_lists {rows : List (List V)} {Q : V → Store → Prop} (he : c.env = c.fenv) (hz : rows.flatten.length ≤ 2 ^ 20) (h : Q (.list rows.flatten) σ) : Wp g c ρ σ [.list (rows.map V.list), .list []] Rep (fun vs => call (.builtin "sum") vs) Q :=
  wp_call2 fun A h₀ s m oc ob ce fz x y S rx ry P hP => by
    cases rx with
    | @list l vs n _ hm hr =>
    cases ry with
    | @list e us k _ hme hre =>
    cases hre
    refine call_function_tree F.kind_sum F.plain_sum F.entry_sum (args_sum2 _ _) ?_
    unfold Builtin.«sum»
    simp only [List.length_cons, List.length_nil]
    rw [if_neg (by decide)]
    refine wpAny_bind (wpAny_of_eq (show Builtin.Builtins.bindParams "sum" ["start"] 0 ⟨[Value.ref e], []⟩ = pure [some (Value.ref e)] from rfl) ?_)
    have hl : s.heap.IsList l vs.toArray := ⟨_, (S.Nz _ hm).1, rfl, n, rfl⟩
    refine wpAny_bind (wpAny_pyIter_list hl ?_)
    have S₁ := S.addOb { cls := .type "list_iterator", data := .fields #[.ref l, .int 0 0] } rfl s.toks
    refine wpAny_bind (wpAny_pure ?_)
    simp only [List.forIn_cons, List.forIn_nil]
    have hT : ({ s with heap := s.heap.push { cls := .type "list_iterator", data := .fields #[.ref l, .int 0 0] } } : Shared).TypeIs (.ref e) "list" := ⟨_, (S₁.Nz _ hme).1, rfl⟩
    refine wpAny_bind (wpAny_bind (wpAny_bind (wpAny_isInstance (T := "list") (b := false) hT sub_list_str' ?_)))
    simp only [Bool.false_eq_true, if_false]
    refine wpAny_pure (wpAny_bind (wpAny_bind (wpAny_isInstance (T := "list") (b := false) hT sub_list_bytes' ?_)))
    simp only [Bool.false_eq_true, if_false]
    refine wpAny_pure (wpAny_bind (wpAny_bind (wpAny_isInstance (T := "list") (b := false) hT sub_list_bytearray' ?_)))
    simp only [Bool.false_eq_true, if_false]
    refine wpAny_pure (wpAny_pure ?_)
    refine wpAny_bind (wpAny_newObj_type ?_)
    have S₂ := S₁.addOb { cls := .type "list", data := .seq #[.ref e] } rfl s.toks
    refine wpAny_pure ⟨plainId_quiet F.plain_sum_loop _, ?_⟩
    exact sum_loop_lists (n := n) he hz hm hr (fun t h' tk' fz' S' sb rt => hP t _ h' tk' fz' S' sb rt h) rows.length 0 _ s.toks (.ref e) 0 _ fz (by lia) (Nat.zero_le _) ⟨_, (S₂.N (s.heap.objs.size, { cls := .type "list_iterator", data := .fields #[.ref l, .int 0 0] }) (by simp)).1, rfl, rfl⟩ S₂ (Sub.refl _) (.list (vs := []) (n := k) hme .nil)
end
-- W22
/-- a dict of texts to ints -/
def DictInts (w : World) (o : Obj) (D : List (Str × Int)) : Prop := ∃ kvs, o.IsDictOf (PySem.strKind PG w) kvs ∧ ∀ x, match D.lookup x with | some i => ∃ t, valueAt kvs x = some (.int i t) | none => valueAt kvs x = none
section
variable {g : G} {c : Cfg} {ρ : Env₁} {σ : Store}
theorem merged3 {k1 k2 k3 : Str} {v1 v2 v3 : Value} (h12 : k1 ≠ k2) (h13 : k1 ≠ k3) (h23 : k2 ≠ k3) : merged ([] : List (Str × Value)) [(k1, v1), (k2, v2), (k3, v3)] = [(k1, v1), (k2, v2), (k3, v3)] := by
  simp [merged, stored, h12, h13, h23]
theorem we_dict3 {k1 k2 k3 : Str} {i1 i2 i3 : Int} {n1 n2 n3 m1 m2 m3 : Nat} {p1 p2 p3 q1 q2 q3 pos : Pos} {Q : V → Store → Prop} (h12 : k1 ≠ k2) (h13 : k1 ≠ k3) (h23 : k2 ≠ k3)
    (h : ∀ o, DictInts g.w o [(k1, i1), (k2, i2), (k3, i3)] → Q (.adr o) σ) :
    We g c ρ σ (.Dict [some (.Constant (.str k1) n1 p1), some (.Constant (.str k2) n2 p2), some (.Constant (.str k3) n3 p3)] [.Constant (.int i1) m1 q1, .Constant (.int i2) m2 q2, .Constant (.int i3) m3 q3] pos) Q := by
  intro A h₀ s m oc ob ce fz vs S R P hP
  have lo : (s.heap.objs.size == sysModules) = false := S.F.notModules (modules_low S.cx.T.nolimit)
  refine wpAny_Dict_walk (knd := PySem.strKind PG g.w) rfl rfl (by simp) (by exact Nat.le_of_ble_eq_true rfl) ?_
  refine pairTrees_cons_walk (Constant_str (wpAny_Constant_int ?_))
  refine pairTrees_cons_walk (Constant_str (wpAny_Constant_int ?_))
  refine pairTrees_cons_walk (Constant_str (wpAny_Constant_int ?_))
  refine pairTrees_nil_walk ?_
  refine ⟨[(k1, _), (k2, _), (k3, _)], ⟨PySem.strKind_is _ _ _ _, rfl, PySem.strKind_is _ _ _ _, rfl, PySem.strKind_is _ _ _ _, rfl, trivial⟩, Heap.DictOf.new s.heap, fun h' hD hs => ?_⟩
  rw [merged3 h12 h13 h23] at hD
  obtain ⟨o, hoD, hoo⟩ := Heap.dictOf_iff.mp hD
  have keep : ∀ b ob, s.heap.get? b = some ob → h'.get? b = some ob := fun b ob e => (hs.2 b (Nat.ne_of_lt (Heap.lt_size e))).trans (Heap.get?_push_of_some _ e)
  refine hP (.ref s.heap.objs.size) (.adr o) σ h' _ ce _ (S.ofNewsAt _ (Nat.le_refl _) (S.F.kept keep) (S.N.kept_cons S.F keep (Nat.le_refl _) hoD)) (Sub.cons _ _) (.adr (.head _) lo) (h o ⟨_, hoo, fun x => ?_⟩)
  simp only [List.lookup_cons, valueAt, List.find?_cons]
  by_cases e1 : x = k1
  · subst e1; simp
  · have e1' : (x == k1) = false := beq_eq_false_iff_ne.mpr e1
    have e1'' : decide (k1 = x) = false := decide_eq_false (Ne.symm e1)
    by_cases e2 : x = k2
    · subst e2; simp [e1', e1'']
    · have e2' : (x == k2) = false := beq_eq_false_iff_ne.mpr e2
      have e2'' : decide (k2 = x) = false := decide_eq_false (Ne.symm e2)
      by_cases e3 : x = k3
      · subst e3; simp [e1', e1'', e2', e2'']
      · have e3' : (x == k3) = false := beq_eq_false_iff_ne.mpr e3
        have e3'' : decide (k3 = x) = false := decide_eq_false (Ne.symm e3)
        simp [e1', e1'', e2', e2'', e3', e3'']
theorem we_neg {x : Expr} {pos : Pos} {Q : V → Store → Prop} (h : We g c ρ σ x fun X σ₁ => ∃ i, X = .int i ∧ Q (.int (-i)) σ₁) : We g c ρ σ (.UnaryOp .USub x pos) Q := by
  intro A h₀ s m oc ob ce fz vs S R P hP
  refine wpAny_UnaryOp (h A h₀ s m oc ob ce fz [] S .nil _ fun a X σ₁ h₁ tk₁ ce₁ fz₁ S₁ sb₁ ra q => ?_)
  obtain ⟨i, rfl, q⟩ := q
  cases ra
  exact PyProof.Rows.neg_int (hP _ (.int (-i)) σ₁ h₁ _ ce₁ fz₁ (S₁.toks _) sb₁ .int q)
/-- the type names called with several arguments -/
theorem we_callTs {x : Str} {p pos : Pos} {ex : Expr} {es : List Expr} {T : String} {Q : V → Store → Prop} (e : nsIn (hd.heap_1 g.w.params) mainGlobals x = some none) (hv : bootBuiltins x = some (.type T))
    (h : Wl g c ρ σ (backTo pos (starEach (ex :: es) c.env)) fun Xs σ' => Wp g c ρ σ' Xs Rep (fun vs => call (.type T) vs) Q)
    (hst : starEach (ex :: es) c.env = (false, eval ex c.env) :: starEach es c.env := by rfl) (hpl : (backTo pos (starEach es c.env)).any (·.1) = false := by rfl)
    (hx : c.env.kindOf x = some .globalImplicit := by rfl) (hn : x ≠ "__name__" := by decide) (hd' : (x == ("__debug__" : Str)) = false := by decide) : We g c ρ σ (.Call (.Name x p) (ex :: es) [] pos) Q := by
  intro A h₀ s m oc ob ce fz vs S R P hP
  show wpAny _ _ (eval (.Name x p) c.env >>= fun f => callWith pos f [] (backTo pos (starEach (ex :: es) c.env)) []) _ _ s
  refine wpAny_bind (we_bltn e hv (Q := fun X σ' => X = .raw (.type T) ∧ σ' = σ) ⟨rfl, rfl⟩ hx hn hd' A h₀ s m oc ob ce fz [] S .nil _ fun a X σ₁ h₁ tk₁ ce₁ fz₁ S₁ sb₁ ra q => ?_)
  obtain ⟨rfl, rfl⟩ := q
  cases ra
  refine callWith_type1 (he := hst) (hplain := hpl) ?_
  refine h A h₀ _ m oc ob ce₁ fz₁ [] S₁ .nil _ fun as Xs σ₂ h₂ tk₂ ce₂ fz₂ S₂ sb₂ ras hr => ?_
  exact hr A h₀ _ m oc ob ce₂ fz₂ as S₂ ras _ fun a b σ' h' tk' ce' fz' S' sb r q => hP a b σ' h' tk' ce' fz' S' (sb₁.trans (sb₂.trans sb)) r q
def pickD (D : List (Str × Int)) (word : Str) (Y : V) : V := match D.lookup word with | some i => .int i | none => Y
/-- d.get(word, other) -/
theorem we_dictget {o : Expr} {apos pos : Pos} {es : List Expr} {pl : Sem Bool} {Q : V → Store → Prop}
    (h : We g c ρ σ o fun X σ₁ => ∃ od D, X = .adr od ∧ DictInts g.w od D ∧ Wl g c ρ σ₁ (backTo pos (starEach es c.env)) fun Xs σ' => ∃ word Y Z, Xs = [.str word, Y] ∧ pickD D word Y = Z ∧ Q Z σ')
    (hs : NoStar (backTo pos (starEach es c.env)) := by first | exact ⟨rfl, rfl⟩ | exact trivial)
    (he : eval (.Call (.Attribute o (Str.ofString "get") apos) es [] pos) c.env = (do
      let ov ← eval o c.env
      standAt apos.atName
      let (f, first) ← holding [ov] (getMethod ov (Str.ofString "get") pl)
      callWith pos f first (backTo pos (starEach es c.env)) []) := by rfl) :
    We g c ρ σ (.Call (.Attribute o (Str.ofString "get") apos) es [] pos) Q := by
  refine we_meth (pl := pl) (h.mono fun X σ₁ q => ?_) hs he
  obtain ⟨od, D, rfl, ⟨kvs, hD, hv⟩, hw⟩ := q
  refine ⟨.builtin "dict.get", [.adr od], fun A h₀ s m oc ob ce fz v S rv P hP => ?_, fun h _ => keeps_B h, hw.mono fun Xs σ' q => ?_⟩
  · cases rv with
    | @adr d _ hm lo =>
    have hd : s.heap.DictOf (PySem.strKind PG g.w) d kvs := Heap.dictOf_iff.mpr ⟨od, (S.Nz _ hm).1, hD⟩
    exact getMethod_builtin hd.typeIs PySem.F.plainAttrs_dict PySem.F.slot_dict_get PySem.F.type_dict_get hd.mapOf.noDict (hP [.ref d] s.heap s.toks S (.cons (.adr hm lo) .nil))
  · obtain ⟨word, Y, Z, rfl, rfl, q⟩ := q
    unfold pickD at q
    intro A h₀ s m oc ob ce fz vs S R P hP
    cases R with
    | cons ra R => cases R with
      | cons rb R => cases R with
        | cons rc R => cases R with
          | nil =>
          cases ra with
          | @adr d _ hm lo =>
          cases rb with
          | @str _ t =>
          have hd : s.heap.DictOf (PySem.strKind PG g.w) d kvs := Heap.dictOf_iff.mpr ⟨od, (S.Nz _ hm).1, hD⟩
          have hv' := hv word
          refine call_meetsIn PySem.F.slot_dict_get hd.typeIs PySem.F.entry_dict_get (PySem.F.args_dict_get_3 _ _ _) (meets_dict_get_default (PySem.strKind PG g.w) d (PySem.strKind_is _ _ word t) lo _) ⟨_, hd.mapOf, ?_⟩
          cases hl : D.lookup word with
          | none =>
            rw [hl] at hv' q
            rw [hv']
            exact hP _ Y σ' s.heap _ ce fz (S.toks _) (Sub.refl _) rc q
          | some i =>
            rw [hl] at hv' q
            obtain ⟨t', hv'⟩ := hv'
            rw [hv']
            exact hP _ (.int i) σ' s.heap _ ce fz (S.toks _) (Sub.refl _) .int q
end
-- X1
theorem fillIt : PySem.Challenge.rw_qd0065_01 = PySem.Challenge.rw_qd0065_01 ∧ hd.heap_1 = hd.heap_1 := by
  k_fill
  exact ⟨rfl, rfl⟩
theorem len0 {vs : List Value} (h : vs.length = 0) : vs = [] := List.length_eq_zero_iff.mp h
theorem len1 {vs : List Value} (h : vs.length = 1) : ∃ a, vs = [a] := List.length_eq_one_iff.mp h
theorem len2 {vs : List Value} (h : vs.length = 2) : ∃ a b, vs = [a, b] := by
  match vs, h with
  | [a, b], _ => exact ⟨a, b, rfl⟩
theorem len3 {vs : List Value} (h : vs.length = 3) : ∃ a b d, vs = [a, b, d] := by
  match vs, h with
  | [a, b, d], _ => exact ⟨a, b, d, rfl⟩
theorem len4 {vs : List Value} (h : vs.length = 4) : ∃ a b d e, vs = [a, b, d, e] := by
  match vs, h with
  | [a, b, d, e], _ => exact ⟨a, b, d, e, rfl⟩

/-! the top's names -/
theorem gl_CharSet (P : Params) : nsIn (hd.heap_1 P) mainGlobals (Str.ofString "CharSet") = some (some (.ref 227)) := by k_is
theorem kp_227 (P : Params) : keepIn (hd.heap_1 P) (.ref 227) = true := by k_is
theorem gl_Empty (P : Params) : nsIn (hd.heap_1 P) mainGlobals (Str.ofString "Empty") = some (some (.ref 269)) := by k_is
theorem kp_269 (P : Params) : keepIn (hd.heap_1 P) (.ref 269) = true := by k_is
theorem gl_Never (P : Params) : nsIn (hd.heap_1 P) mainGlobals (Str.ofString "Never") = some (some (.ref 281)) := by k_is
theorem kp_281 (P : Params) : keepIn (hd.heap_1 P) (.ref 281) = true := by k_is
theorem gl_Chars (P : Params) : nsIn (hd.heap_1 P) mainGlobals (Str.ofString "Chars") = some (some (.ref 307)) := by k_is
theorem kp_307 (P : Params) : keepIn (hd.heap_1 P) (.ref 307) = true := by k_is
theorem gl_Cat (P : Params) : nsIn (hd.heap_1 P) mainGlobals (Str.ofString "Cat") = some (some (.ref 352)) := by k_is
theorem kp_352 (P : Params) : keepIn (hd.heap_1 P) (.ref 352) = true := by k_is
theorem gl_Alt (P : Params) : nsIn (hd.heap_1 P) mainGlobals (Str.ofString "Alt") = some (some (.ref 364)) := by k_is
theorem kp_364 (P : Params) : keepIn (hd.heap_1 P) (.ref 364) = true := by k_is
theorem gl_Loop (P : Params) : nsIn (hd.heap_1 P) mainGlobals (Str.ofString "Loop") = some (some (.ref 397)) := by k_is
theorem kp_397 (P : Params) : keepIn (hd.heap_1 P) (.ref 397) = true := by k_is
theorem gl_Star (P : Params) : nsIn (hd.heap_1 P) mainGlobals (Str.ofString "Star") = some (some (.ref 409)) := by k_is
theorem kp_409 (P : Params) : keepIn (hd.heap_1 P) (.ref 409) = true := by k_is
theorem gl_Plus (P : Params) : nsIn (hd.heap_1 P) mainGlobals (Str.ofString "Plus") = some (some (.ref 421)) := by k_is
theorem kp_421 (P : Params) : keepIn (hd.heap_1 P) (.ref 421) = true := by k_is
theorem gl_Opt (P : Params) : nsIn (hd.heap_1 P) mainGlobals (Str.ofString "Opt") = some (some (.ref 433)) := by k_is
theorem kp_433 (P : Params) : keepIn (hd.heap_1 P) (.ref 433) = true := by k_is
theorem gl_Repeat (P : Params) : nsIn (hd.heap_1 P) mainGlobals (Str.ofString "Repeat") = some (some (.ref 459)) := by k_is
theorem kp_459 (P : Params) : keepIn (hd.heap_1 P) (.ref 459) = true := by k_is
theorem gl_spine (P : Params) : nsIn (hd.heap_1 P) mainGlobals (Str.ofString "spine") = some (some (.ref 468)) := by k_is
theorem kp_468 (P : Params) : keepIn (hd.heap_1 P) (.ref 468) = true := by k_is
theorem gl_cat_all (P : Params) : nsIn (hd.heap_1 P) mainGlobals (Str.ofString "cat_all") = some (some (.ref 475)) := by k_is
theorem kp_475 (P : Params) : keepIn (hd.heap_1 P) (.ref 475) = true := by k_is
theorem gl_alt_all (P : Params) : nsIn (hd.heap_1 P) mainGlobals (Str.ofString "alt_all") = some (some (.ref 482)) := by k_is
theorem kp_482 (P : Params) : keepIn (hd.heap_1 P) (.ref 482) = true := by k_is
theorem gl_Pattern (P : Params) : nsIn (hd.heap_1 P) mainGlobals (Str.ofString "Pattern") = some (some (.ref 520)) := by k_is
theorem kp_520 (P : Params) : keepIn (hd.heap_1 P) (.ref 520) = true := by k_is
theorem gl_can_be_empty (P : Params) : nsIn (hd.heap_1 P) mainGlobals (Str.ofString "can_be_empty") = some (some (.ref 531)) := by k_is
theorem kp_531 (P : Params) : keepIn (hd.heap_1 P) (.ref 531) = true := by k_is
theorem gl_row_without_empty (P : Params) : nsIn (hd.heap_1 P) mainGlobals (Str.ofString "row_without_empty") = some (some (.ref 538)) := by k_is
theorem kp_538 (P : Params) : keepIn (hd.heap_1 P) (.ref 538) = true := by k_is
theorem gl_without_empty (P : Params) : nsIn (hd.heap_1 P) mainGlobals (Str.ofString "without_empty") = some (some (.ref 543)) := by k_is
theorem kp_543 (P : Params) : keepIn (hd.heap_1 P) (.ref 543) = true := by k_is
theorem gl_matched_node (P : Params) : nsIn (hd.heap_1 P) mainGlobals (Str.ofString "matched_node") = some (some (.ref 550)) := by k_is
theorem kp_550 (P : Params) : keepIn (hd.heap_1 P) (.ref 550) = true := by k_is
theorem gl_law_pen (P : Params) : nsIn (hd.heap_1 P) mainGlobals (Str.ofString "_law_pen") = some (some (.ref 557)) := by k_is
theorem kp_557 (P : Params) : keepIn (hd.heap_1 P) (.ref 557) = true := by k_is
theorem gl_law_draw (P : Params) : nsIn (hd.heap_1 P) mainGlobals (Str.ofString "_law_draw") = some (some (.ref 564)) := by k_is
theorem kp_564 (P : Params) : keepIn (hd.heap_1 P) (.ref 564) = true := by k_is
theorem gl_law_letter (P : Params) : nsIn (hd.heap_1 P) mainGlobals (Str.ofString "_law_letter") = some (some (.ref 571)) := by k_is
theorem kp_571 (P : Params) : keepIn (hd.heap_1 P) (.ref 571) = true := by k_is
theorem gl_law_words (P : Params) : nsIn (hd.heap_1 P) mainGlobals (Str.ofString "_law_words") = some (some (.ref 576)) := by k_is
theorem kp_576 (P : Params) : keepIn (hd.heap_1 P) (.ref 576) = true := by k_is
theorem gl_law_part (P : Params) : nsIn (hd.heap_1 P) mainGlobals (Str.ofString "_law_part") = some (some (.ref 583)) := by k_is
theorem kp_583 (P : Params) : keepIn (hd.heap_1 P) (.ref 583) = true := by k_is
theorem gl_law_spread (P : Params) : nsIn (hd.heap_1 P) mainGlobals (Str.ofString "_law_spread") = some (some (.ref 590)) := by k_is
theorem kp_590 (P : Params) : keepIn (hd.heap_1 P) (.ref 590) = true := by k_is
theorem gl_law_shown (P : Params) : nsIn (hd.heap_1 P) mainGlobals (Str.ofString "_law_shown") = some (some (.ref 595)) := by k_is
theorem kp_595 (P : Params) : keepIn (hd.heap_1 P) (.ref 595) = true := by k_is
theorem gl_law_halvings (P : Params) : nsIn (hd.heap_1 P) mainGlobals (Str.ofString "_law_halvings") = some (some (.ref 602)) := by k_is
theorem kp_602 (P : Params) : keepIn (hd.heap_1 P) (.ref 602) = true := by k_is
theorem gl_MOST (P : Params) : nsIn (hd.heap_1 P) mainGlobals (Str.ofString "MOST_REPEAT") = some (some (.int 40 510)) := by k_is
theorem gb_len (P : Params) : nsIn (hd.heap_1 P) mainGlobals (Str.ofString "len") = some none := by k_is
theorem gb_max (P : Params) : nsIn (hd.heap_1 P) mainGlobals (Str.ofString "max") = some none := by k_is
theorem gb_sum (P : Params) : nsIn (hd.heap_1 P) mainGlobals (Str.ofString "sum") = some none := by k_is
theorem gb_sorted (P : Params) : nsIn (hd.heap_1 P) mainGlobals (Str.ofString "sorted") = some none := by k_is
theorem gb_list (P : Params) : nsIn (hd.heap_1 P) mainGlobals (Str.ofString "list") = some none := by k_is
theorem gb_dict (P : Params) : nsIn (hd.heap_1 P) mainGlobals (Str.ofString "dict") = some none := by k_is
theorem gb_tuple (P : Params) : nsIn (hd.heap_1 P) mainGlobals (Str.ofString "tuple") = some none := by k_is
theorem gb_range (P : Params) : nsIn (hd.heap_1 P) mainGlobals (Str.ofString "range") = some none := by k_is
theorem gb_chr (P : Params) : nsIn (hd.heap_1 P) mainGlobals (Str.ofString "chr") = some none := by k_is
theorem gb_ord (P : Params) : nsIn (hd.heap_1 P) mainGlobals (Str.ofString "ord") = some none := by k_is
theorem gb_abs (P : Params) : nsIn (hd.heap_1 P) mainGlobals (Str.ofString "abs") = some none := by k_is
theorem gb_int (P : Params) : nsIn (hd.heap_1 P) mainGlobals (Str.ofString "int") = some none := by k_is
theorem gb_divmod (P : Params) : nsIn (hd.heap_1 P) mainGlobals (Str.ofString "divmod") = some none := by k_is
theorem gb_min (P : Params) : nsIn (hd.heap_1 P) mainGlobals (Str.ofString "min") = some none := by k_is
theorem bb_len : bootBuiltins (Str.ofString "len") = some (.builtin "len") := by decide +kernel
theorem bb_max : bootBuiltins (Str.ofString "max") = some (.builtin "max") := by decide +kernel
theorem bb_sum : bootBuiltins (Str.ofString "sum") = some (.builtin "sum") := by decide +kernel
theorem bb_sorted : bootBuiltins (Str.ofString "sorted") = some (.builtin "sorted") := by decide +kernel
theorem bb_chr : bootBuiltins (Str.ofString "chr") = some (.builtin "chr") := by decide +kernel
theorem bb_ord : bootBuiltins (Str.ofString "ord") = some (.builtin "ord") := by decide +kernel
theorem bb_abs : bootBuiltins (Str.ofString "abs") = some (.builtin "abs") := by decide +kernel
theorem bb_divmod : bootBuiltins (Str.ofString "divmod") = some (.builtin "divmod") := by decide +kernel
theorem bb_min : bootBuiltins (Str.ofString "min") = some (.builtin "min") := by decide +kernel
theorem bt_list : bootBuiltins (Str.ofString "list") = some (.type "list") := by decide +kernel
theorem bt_dict : bootBuiltins (Str.ofString "dict") = some (.type "dict") := by decide +kernel
theorem bt_tuple : bootBuiltins (Str.ofString "tuple") = some (.type "tuple") := by decide +kernel
theorem bt_int : bootBuiltins (Str.ofString "int") = some (.type "int") := by decide +kernel
theorem bt_range : bootBuiltins (Str.ofString "range") = some (.type "range") := by decide +kernel

local macro_rules | `(tactic| walk_at "DEF") => `(tactic| (
  (case ho => k_is); (case hcd => k_is);
  (case hb => (intro s vs hlen; (first
    | (obtain ⟨_, e⟩ := len1 hlen; subst e)
    | (obtain ⟨_, _, e⟩ := len2 hlen; subst e)
    | (obtain ⟨_, _, _, e⟩ := len3 hlen; subst e)
    | (obtain ⟨_, _, _, _, e⟩ := len4 hlen; subst e)
    | (have e := len0 hlen; subst e)); exact BindsTo.of_eq (by rfl)));
  (case hl => decide); (case c1 => exact rfl); (case c2 => exact rfl); (case c3 => exact rfl); (case c4 => decide)))
/-- what a thing's class says of stores -/
structure Clean (P : Params) (C : Addr) : Prop where
  sa : findIn (hd.heap_1 P) (.ref C) "__setattr__" = some (some (.builtin "object.__setattr__"))
  po : plainOver (hd.heap_1 P) C = true
  hdk : hasDictIn (hd.heap_1 P) C = true
  mks : makesIn (hd.heap_1 P) C = true
theorem clean_CharSet (P : Params) : Clean P 227 := ⟨by k_is, by k_is, by k_is, by k_is⟩
theorem clean_Chars (P : Params) : Clean P 307 := ⟨by k_is, by k_is, by k_is, by k_is⟩
theorem clean_Cat (P : Params) : Clean P 352 := ⟨by k_is, by k_is, by k_is, by k_is⟩
theorem clean_Alt (P : Params) : Clean P 364 := ⟨by k_is, by k_is, by k_is, by k_is⟩
theorem clean_Star (P : Params) : Clean P 409 := ⟨by k_is, by k_is, by k_is, by k_is⟩
theorem clean_Plus (P : Params) : Clean P 421 := ⟨by k_is, by k_is, by k_is, by k_is⟩
theorem clean_Opt (P : Params) : Clean P 433 := ⟨by k_is, by k_is, by k_is, by k_is⟩
theorem clean_Repeat (P : Params) : Clean P 459 := ⟨by k_is, by k_is, by k_is, by k_is⟩
theorem clean_Pattern (P : Params) : Clean P 520 := ⟨by k_is, by k_is, by k_is, by k_is⟩
theorem clean_Empty (P : Params) : Clean P 269 := ⟨by k_is, by k_is, by k_is, by k_is⟩
theorem clean_Never (P : Params) : Clean P 281 := ⟨by k_is, by k_is, by k_is, by k_is⟩

theorem pair_init {g : G} {σ : Store} {dx C : Addr} {X Y : V} (K : Clean g.w.params C)
    (ht : takerIn (hd.heap_1 g.w.params) C (Str.ofString "left") = some none) (ht2 : takerIn (hd.heap_1 g.w.params) C (Str.ofString "right") = some none) :
    Wc g 2 (.ref 323) ((dx, .dict []) :: σ) [.obj C dx, X, Y] fun Z σ' => Z = .none ∧ ∃ fs σ₀, σ' = (dx, .dict fs) :: σ₀ ∧ (fs = [(Str.ofString "left", X), (Str.ofString "right", Y)] ∧ σ₀ = σ) := by
  refine' wc_def [Str.ofString "self", Str.ofString "left", Str.ofString "right"] ?ho ?hcd ?hb ?hl ?h ?c1 ?c2 ?c3 ?c4
  walk_at "DEF"
  intro L
  refine wss_cons ?_
  refine wx_setattr rfl rfl (by exact Nat.le_of_ble_eq_true rfl) ?_ K.sa K.po ht K.hdk
  refine we_name rfl ⟨rfl, ?_⟩
  refine wss_cons ?_
  refine wx_setattr rfl rfl (by exact Nat.le_of_ble_eq_true rfl) ?_ K.sa K.po ht2 K.hdk
  refine we_name rfl ⟨rfl, ?_⟩
  refine wss_nil ?_
  exact ⟨rfl, _, _, rfl, rfl, rfl⟩
theorem new_Cat {g : G} {σ : Store} {X Y : V} {Q : V → Store → Prop} (h : Q (.inst 352 [(Str.ofString "left", X), (Str.ofString "right", Y)]) σ) : Wc g 3 (.ref 352) σ [X, Y] Q :=
  wc_new (clean_Cat _).mks (by k_is) (by k_is) fun _ => (pair_init (clean_Cat _) (by k_is) (by k_is)).mono fun _ _ ⟨a, fs, s, b, e, f⟩ => ⟨a, fs, s, b, by rw [e, f]; exact h⟩
theorem new_Alt {g : G} {σ : Store} {X Y : V} {Q : V → Store → Prop} (h : Q (.inst 364 [(Str.ofString "left", X), (Str.ofString "right", Y)]) σ) : Wc g 3 (.ref 364) σ [X, Y] Q :=
  wc_new (clean_Alt _).mks (by k_is) (by k_is) fun _ => (pair_init (clean_Alt _) (by k_is) (by k_is)).mono fun _ _ ⟨a, fs, s, b, e, f⟩ => ⟨a, fs, s, b, by rw [e, f]; exact h⟩
theorem loop_init {g : G} {σ : Store} {dx C : Addr} {X : V} (K : Clean g.w.params C) (ht : takerIn (hd.heap_1 g.w.params) C (Str.ofString "body") = some none) :
    Wc g 2 (.ref 380) ((dx, .dict []) :: σ) [.obj C dx, X] fun Z σ' => Z = .none ∧ σ' = (dx, .dict [(Str.ofString "body", X)]) :: σ := by
  refine' wc_def [Str.ofString "self", Str.ofString "body"] ?ho ?hcd ?hb ?hl ?h ?c1 ?c2 ?c3 ?c4
  walk_at "DEF"
  intro L
  refine wss_cons ?_
  refine wx_setattr rfl rfl (by exact Nat.le_of_ble_eq_true rfl) ?_ K.sa K.po ht K.hdk
  refine we_name rfl ⟨rfl, ?_⟩
  refine wss_nil ?_
  exact ⟨rfl, rfl⟩
theorem new_Star {g : G} {σ : Store} {X : V} {Q : V → Store → Prop} (h : Q (.inst 409 [(Str.ofString "body", X)]) σ) : Wc g 3 (.ref 409) σ [X] Q :=
  wc_new (clean_Star _).mks (by k_is) (by k_is) fun _ => (loop_init (clean_Star _) (by k_is)).mono fun _ _ ⟨a, b⟩ => ⟨a, _, _, b, h⟩
theorem new_Plus {g : G} {σ : Store} {X : V} {Q : V → Store → Prop} (h : Q (.inst 421 [(Str.ofString "body", X)]) σ) : Wc g 3 (.ref 421) σ [X] Q :=
  wc_new (clean_Plus _).mks (by k_is) (by k_is) fun _ => (loop_init (clean_Plus _) (by k_is)).mono fun _ _ ⟨a, b⟩ => ⟨a, _, _, b, h⟩
theorem new_Opt {g : G} {σ : Store} {X : V} {Q : V → Store → Prop} (h : Q (.inst 433 [(Str.ofString "body", X)]) σ) : Wc g 3 (.ref 433) σ [X] Q :=
  wc_new (clean_Opt _).mks (by k_is) (by k_is) fun _ => (loop_init (clean_Opt _) (by k_is)).mono fun _ _ ⟨a, b⟩ => ⟨a, _, _, b, h⟩
theorem new_CharSet {g : G} {σ : Store} {X : V} {Q : V → Store → Prop} (h : Q (.inst 227 [(Str.ofString "spans", X)]) σ) : Wc g 3 (.ref 227) σ [X] Q := by
  refine wc_new (clean_CharSet _).mks (by k_is) (by k_is) fun dx => ?_
  show Wc g 2 (.ref 75) _ _ _
  refine' wc_def [Str.ofString "self", Str.ofString "spans"] ?ho ?hcd ?hb ?hl ?h ?c1 ?c2 ?c3 ?c4
  walk_at "DEF"
  intro L
  refine wss_cons ?_
  refine wx_setattr rfl rfl (by exact Nat.le_of_ble_eq_true rfl) ?_ (clean_CharSet _).sa (clean_CharSet _).po (by k_is) (clean_CharSet _).hdk
  refine we_name rfl ⟨rfl, ?_⟩
  refine wss_nil ?_
  exact ⟨rfl, _, _, rfl, h⟩
theorem new_Chars {g : G} {σ : Store} {X : V} {Q : V → Store → Prop} (h : Q (.inst 307 [(Str.ofString "charset", X)]) σ) : Wc g 3 (.ref 307) σ [X] Q := by
  refine wc_new (clean_Chars _).mks (by k_is) (by k_is) fun dx => ?_
  show Wc g 2 (.ref 297) _ _ _
  refine' wc_def [Str.ofString "self", Str.ofString "charset"] ?ho ?hcd ?hb ?hl ?h ?c1 ?c2 ?c3 ?c4
  walk_at "DEF"
  intro L
  refine wss_cons ?_
  refine wx_setattr rfl rfl (by exact Nat.le_of_ble_eq_true rfl) ?_ (clean_Chars _).sa (clean_Chars _).po (by k_is) (clean_Chars _).hdk
  refine we_name rfl ⟨rfl, ?_⟩
  refine wss_nil ?_
  exact ⟨rfl, _, _, rfl, h⟩
theorem new_Pattern {g : G} {σ : Store} {X Y Z : V} {Q : V → Store → Prop} (h : Q (.inst 520 [(Str.ofString "body", X), (Str.ofString "begins", Y), (Str.ofString "trail", Z)]) σ) : Wc g 3 (.ref 520) σ [X, Y, Z] Q := by
  refine wc_new (clean_Pattern _).mks (by k_is) (by k_is) fun dx => ?_
  show Wc g 2 (.ref 496) _ _ _
  refine' wc_def [Str.ofString "self", Str.ofString "body", Str.ofString "begins", Str.ofString "trail"] ?ho ?hcd ?hb ?hl ?h ?c1 ?c2 ?c3 ?c4
  walk_at "DEF"
  intro L
  refine wss_cons ?_
  refine wx_setattr rfl rfl (by exact Nat.le_of_ble_eq_true rfl) ?_ (clean_Pattern _).sa (clean_Pattern _).po (by k_is) (clean_Pattern _).hdk
  refine we_name rfl ⟨rfl, ?_⟩
  refine wss_cons ?_
  refine wx_setattr rfl rfl (by exact Nat.le_of_ble_eq_true rfl) ?_ (clean_Pattern _).sa (clean_Pattern _).po (by k_is) (clean_Pattern _).hdk
  refine we_name rfl ⟨rfl, ?_⟩
  refine wss_cons ?_
  refine wx_setattr rfl rfl (by exact Nat.le_of_ble_eq_true rfl) ?_ (clean_Pattern _).sa (clean_Pattern _).po (by k_is) (clean_Pattern _).hdk
  refine we_name rfl ⟨rfl, ?_⟩
  refine wss_nil ?_
  exact ⟨rfl, _, _, rfl, h⟩
theorem new_Empty {g : G} {σ : Store} {d : Nat} {Q : V → Store → Prop} (h : Q (.inst 269 []) σ) : Wc g d (.ref 269) σ [] Q := wc_new0 (clean_Empty _).mks (by k_is) h
theorem new_Never {g : G} {σ : Store} {d : Nat} {Q : V → Store → Prop} (h : Q (.inst 281 []) σ) : Wc g d (.ref 281) σ [] Q := wc_new0 (clean_Never _).mks (by k_is) h
-- X2
abbrev S (x : String) : Str := Str.ofString x
/-- the node trees -/
inductive Nd where
  | empty | never
  | chars (b : Bool)
  | cat (l r : Nd)
  | alt (l r : Nd)
  | star (x : Nd)
  | plus (x : Nd)
  | opt (x : Nd)
  | rep (z : Bool) (x : Nd)
def ch (b : Bool) : Nat := if b then 98 else 97
def spanV (b : Bool) : V := .tup [.tup [.int (ch b), .int (ch b)]]
def csV (b : Bool) : V := .inst 227 [(S "spans", spanV b)]
def low (z : Bool) : Int := if z then 1 else 0
def Nd.v : Nd → V
  | .empty => .inst 269 []
  | .never => .inst 281 []
  | .chars b => .inst 307 [(S "charset", csV b)]
  | .cat l r => .inst 352 [(S "left", l.v), (S "right", r.v)]
  | .alt l r => .inst 364 [(S "left", l.v), (S "right", r.v)]
  | .star x => .inst 409 [(S "body", x.v)]
  | .plus x => .inst 421 [(S "body", x.v)]
  | .opt x => .inst 433 [(S "body", x.v)]
  | .rep z x => .inst 459 [(S "body", x.v), (S "low", .int (low z)), (S "high", .int 2)]
inductive Kd where
  | empty | never | chars | cat | alt | star | plus | opt | rep
  deriving DecidableEq
def Nd.kd : Nd → Kd
  | .empty => .empty | .never => .never | .chars _ => .chars | .cat _ _ => .cat | .alt _ _ => .alt | .star _ => .star | .plus _ => .plus | .opt _ => .opt | .rep _ _ => .rep
def Kd.nm : Kd → Str
  | .empty => ⟨#[101, 109, 112, 116, 121]⟩
  | .never => ⟨#[110, 101, 118, 101, 114]⟩
  | .chars => ⟨#[99, 104, 97, 114, 115]⟩
  | .cat => ⟨#[99, 97, 116]⟩
  | .alt => ⟨#[97, 108, 116]⟩
  | .star => ⟨#[115, 116, 97, 114]⟩
  | .plus => ⟨#[112, 108, 117, 115]⟩
  | .opt => ⟨#[111, 112, 116]⟩
  | .rep => ⟨#[114, 101, 112, 101, 97, 116]⟩
theorem nm_inj (a b : Kd) : (a.nm == b.nm) = decide (a = b) := by cases a <;> cases b <;> decide +kernel

theorem ga_name {g : G} {c : Cfg} {ρ : Env₁} {σ : Store} {n : Nd} {ex : Bool} {Q : V → Store → Prop} (h : Q (.str n.kd.nm) σ) : Wp g c ρ σ [n.v] Rep (op1 fun v => getAttr v (S "name") ex) Q := by
  cases n
  · exact ga_cls (x := Kd.nm .empty) (t := 560) rfl (by k_is) (by k_is) (by k_is) (by k_is) rfl h
  · exact ga_cls (x := Kd.nm .never) (t := 578) rfl (by k_is) (by k_is) (by k_is) (by k_is) rfl h
  · exact ga_cls (x := Kd.nm .chars) (t := 596) rfl (by k_is) (by k_is) (by k_is) (by k_is) rfl h
  · exact ga_cls (x := Kd.nm .cat) (t := 674) rfl (by k_is) (by k_is) (by k_is) (by k_is) rfl h
  · exact ga_cls (x := Kd.nm .alt) (t := 692) rfl (by k_is) (by k_is) (by k_is) (by k_is) rfl h
  · exact ga_cls (x := Kd.nm .star) (t := 749) rfl (by k_is) (by k_is) (by k_is) (by k_is) rfl h
  · exact ga_cls (x := Kd.nm .plus) (t := 767) rfl (by k_is) (by k_is) (by k_is) (by k_is) rfl h
  · exact ga_cls (x := Kd.nm .opt) (t := 785) rfl (by k_is) (by k_is) (by k_is) (by k_is) rfl h
  · exact ga_cls (x := Kd.nm .rep) (t := 803) rfl (by k_is) (by k_is) (by k_is) (by k_is) rfl h

theorem is_nm (k : Kd) : (k.nm == S "empty") = decide (k = .empty) ∧ (k.nm == S "never") = decide (k = .never) ∧ (k.nm == S "chars") = decide (k = .chars) ∧ (k.nm == S "cat") = decide (k = .cat) ∧ (k.nm == S "alt") = decide (k = .alt) ∧
    (k.nm == S "star") = decide (k = .star) ∧ (k.nm == S "plus") = decide (k = .plus) ∧ (k.nm == S "opt") = decide (k = .opt) ∧ (k.nm == S "repeat") = decide (k = .rep) := by cases k <;> decide +kernel
theorem is_empty (k : Kd) : (k.nm == S "empty") = decide (k = .empty) := (is_nm k).1
theorem is_never (k : Kd) : (k.nm == S "never") = decide (k = .never) := (is_nm k).2.1
theorem is_chars (k : Kd) : (k.nm == S "chars") = decide (k = .chars) := (is_nm k).2.2.1
theorem is_cat (k : Kd) : (k.nm == S "cat") = decide (k = .cat) := (is_nm k).2.2.2.1
theorem is_alt (k : Kd) : (k.nm == S "alt") = decide (k = .alt) := (is_nm k).2.2.2.2.1
theorem is_star (k : Kd) : (k.nm == S "star") = decide (k = .star) := (is_nm k).2.2.2.2.2.1
theorem is_plus (k : Kd) : (k.nm == S "plus") = decide (k = .plus) := (is_nm k).2.2.2.2.2.2.1
theorem is_opt (k : Kd) : (k.nm == S "opt") = decide (k = .opt) := (is_nm k).2.2.2.2.2.2.2.1
theorem is_rep (k : Kd) : (k.nm == S "repeat") = decide (k = .rep) := (is_nm k).2.2.2.2.2.2.2.2

/-! the nodes' own fields -/
section
variable {g : G} {c : Cfg} {ρ : Env₁} {σ : Store} {ex : Bool} {Q : V → Store → Prop}
theorem ga_left {l r : Nd} (k : Bool) (h : Q l.v σ) : Wp g c ρ σ [(if k then Nd.cat l r else Nd.alt l r).v] Rep (op1 fun v => getAttr v (S "left") ex) Q := by
  have p : ∀ n : Nd, n.v.plain = true := fun n => by cases n <;> rfl
  cases k
  · exact ga_own (o := none) rfl (p l) (by k_is) (by k_is) (by k_is) rfl h
  · exact ga_own (o := none) rfl (p l) (by k_is) (by k_is) (by k_is) rfl h
theorem ga_right {l r : Nd} (k : Bool) (h : Q r.v σ) : Wp g c ρ σ [(if k then Nd.cat l r else Nd.alt l r).v] Rep (op1 fun v => getAttr v (S "right") ex) Q := by
  have p : ∀ n : Nd, n.v.plain = true := fun n => by cases n <;> rfl
  cases k
  · exact ga_own (o := none) rfl (p r) (by k_is) (by k_is) (by k_is) rfl h
  · exact ga_own (o := none) rfl (p r) (by k_is) (by k_is) (by k_is) rfl h
end

def spineK (k : Kd) : Nd → List Nd
  | .cat l r => if k = .cat then spineK k l ++ [r] else [.cat l r]
  | .alt l r => if k = .alt then spineK k l ++ [r] else [.alt l r]
  | n => [n]
def Nd.spine (n : Nd) : List Nd := spineK n.kd n
def Nd.size : Nd → Nat
  | .empty => 1
  | .never => 1
  | .chars _ => 1
  | .cat l r => l.size + r.size + 1
  | .alt l r => l.size + r.size + 1
  | .star x => x.size + 1
  | .plus x => x.size + 1
  | .opt x => x.size + 1
  | .rep _ x => x.size + 1

def Nd.ht : Nd → Nat
  | .empty => 1
  | .never => 1
  | .chars _ => 1
  | .cat l r => max l.ht r.ht + 1
  | .alt l r => max l.ht r.ht + 1
  | .star x => x.ht + 1
  | .plus x => x.ht + 1
  | .opt x => x.ht + 1
  | .rep _ x => x.ht + 1
theorem Nd.ht_pos (n : Nd) : 1 ≤ n.ht := by cases n <;> simp [Nd.ht]
theorem Nd.ht_size (n : Nd) : n.ht ≤ n.size := by
  induction n <;> simp only [Nd.ht, Nd.size] <;> lia
theorem Nd.size_pos (n : Nd) : 1 ≤ n.size := by cases n <;> simp [Nd.size]
theorem c_spine {g : G} {σ : Store} (n : Nd) (hz : n.ht ≤ 2 ^ 20) {Q : V → Store → Prop} (h : Q (.list (n.spine.map Nd.v)) σ) : Wc g 2 (.ref 468) σ [n.v] Q := by
  refine' wc_def [S "node"] ?ho ?hcd ?hb ?hl ?h ?c1 ?c2 ?c3 ?c4
  walk_at "DEF"
  intro L
  refine wss_cons (wx_assign (we_list_cell ?_))
  refine wl_nil ⟨by decide, fun a ha => ?_⟩
  refine wss_cons (wx_assign (we_name rfl ?_))
  refine wss_while (fun k ρ' σ' => ∃ (hr : Nd) (Ps : List Nd), ρ'.lookup (S "here") = some hr.v ∧ ρ'.lookup (S "node") = some n.v ∧ ρ'.lookup (S "parts") = some (.cell a) ∧ σ' = (a, .list (Ps.map Nd.v)) :: σ ∧ hr.size = k ∧ hr.ht + Ps.length ≤ n.ht ∧ n.spine = spineK n.kd hr ++ Ps.reverse) (fun ρ' σ' => ∃ (hr : Nd) (Ps : List Nd), ρ'.lookup (S "here") = some hr.v ∧ ρ'.lookup (S "parts") = some (.cell a) ∧ σ' = (a, .list (Ps.map Nd.v)) :: σ ∧ Ps.length + 1 ≤ n.ht ∧ n.spine = [hr] ++ Ps.reverse) n.size ⟨n, [], rfl, rfl, rfl, rfl, rfl, by simp, by simp [Nd.spine]⟩ ?_ ?_
  rotate_left
  · rintro ρ' σ' ⟨hr, Ps, h1, h3, rfl, h6, h7⟩
    refine wss_cons (wx_append (Xs := Ps.map Nd.v) h3 (by rw [List.length_map]; lia) (we_name h1 ⟨lookup_top, ?_⟩))
    rw [put_top, put_off ha]
    refine wss_cons (wx_reverse (Xs := Ps.map Nd.v ++ [hr.v]) h3 lookup_top (by simp only [List.length_append, List.length_map, List.length_cons, List.length_nil]; lia) ?_)
    rw [put_top, put_off ha]
    refine wss_freeze h3 (wss_cons (wx_return (we_name rfl ?_)))
    have e : (Ps.map Nd.v ++ [hr.v]).reverse = n.spine.map Nd.v := by rw [h7]; simp
    show Q (.list (Ps.map Nd.v ++ [hr.v]).reverse) σ
    rw [e]
    exact h
  rintro k ρ' σ' ⟨hr, Ps, h1, h2, h3, rfl, h5, h6, h7⟩
  have hp := hr.ht_pos
  have hp' := hr.size_pos
  refine wt_boolop (wall_and (wt_cmp (we_attr (we_name h1 (ga_name (we_attr (we_name h2 (ga_name (eq_strs ⟨_, rfl, ?_⟩)))))))))
  rw [nm_inj]
  by_cases hk : hr.kd = n.kd
  · rw [decide_eq_true hk]
    refine wall_and (wt_boolop (wall_or (wt_cmp (we_attr (we_name h1 (ga_name (we_str (eq_strs ⟨_, rfl, ?_⟩))))))))
    rw [is_cat]
    by_cases hc : hr.kd = .cat
    · rw [decide_eq_true hc]
      refine wall_nil ?_
      cases hr <;> first | (exact Kd.noConfusion hc) | skip
      rename_i l r
      refine wss_cons (wx_append (Xs := Ps.map Nd.v) h3 (by rw [List.length_map]; lia) (we_attr (we_name h1 (ga_right true ⟨lookup_top, ?_⟩))))
      rw [put_top, put_off ha]
      refine wss_cons (wx_assign (we_attr (we_name h1 (ga_left true ?_))))
      refine wss_nil ?_
      have e : n.kd = .cat := hk.symm
      refine ⟨l.size, by rw [← h5]; simp only [Nd.size]; lia, l, Ps ++ [r], rfl, h2, h3, by simp, rfl, ?_, ?_⟩
      · simp only [Nd.ht] at h6; simp only [List.length_append, List.length_cons, List.length_nil]; lia
      · rw [h7, e]; simp [spineK]
    · rw [decide_eq_false hc]
      refine wall_or (wt_cmp (we_attr (we_name h1 (ga_name (we_str (eq_strs ⟨_, rfl, ?_⟩))))))
      rw [is_alt]
      by_cases hb : hr.kd = .alt
      · rw [decide_eq_true hb]
        refine wall_nil ?_
        cases hr <;> first | (exact Kd.noConfusion hb) | skip
        rename_i l r
        refine wss_cons (wx_append (Xs := Ps.map Nd.v) h3 (by rw [List.length_map]; lia) (we_attr (we_name h1 (ga_right false ⟨lookup_top, ?_⟩))))
        rw [put_top, put_off ha]
        refine wss_cons (wx_assign (we_attr (we_name h1 (ga_left false ?_))))
        refine wss_nil ?_
        have e : n.kd = .alt := hk.symm
        refine ⟨l.size, by rw [← h5]; simp only [Nd.size]; lia, l, Ps ++ [r], rfl, h2, h3, by simp, rfl, ?_, ?_⟩
        · simp only [Nd.ht] at h6; simp only [List.length_append, List.length_cons, List.length_nil]; lia
        · rw [h7, e]; simp [spineK]
      · rw [decide_eq_false hb]
        refine wall_nil ?_
        refine ⟨hr, Ps, h1, h3, rfl, by lia, h7.trans (congrArg (· ++ Ps.reverse) ?_)⟩
        cases hr <;> first | rfl | (exact absurd rfl hc) | (exact absurd rfl hb)
  · rw [decide_eq_false hk]
    refine ⟨hr, Ps, h1, h3, rfl, by lia, h7.trans (congrArg (· ++ Ps.reverse) ?_)⟩
    cases hr <;> first | rfl | skip
    · simp only [spineK]; rw [if_neg (fun e => hk e.symm)]
    · simp only [spineK]; rw [if_neg (fun e => hk e.symm)]
-- X3
theorem we_globI {g : G} {c : Cfg} {ρ : Env₁} {σ : Store} {x : Str} {pos : Pos} {i : Int} {t : Tok} {Q : V → Store → Prop} (e : nsIn (hd.heap_1 g.w.params) mainGlobals x = some (some (.int i t))) (h : Q (.int i) σ) (hx : c.env.kindOf x = some .globalImplicit := by rfl)
    (hd : (x == ("__debug__" : Str)) = false := by decide) : We g c ρ σ (.Name x pos) Q := by
  intro A h₀ s m oc ob ce fz vs S R P hP
  exact nameG_K S.F S.cx.X S.TR e (hP _ (.int i) σ s.heap s.toks ce fz S (Sub.refl _) .int h) S.eg S.ek hx hd
theorem new_Repeat {g : G} {σ : Store} {X : V} {z : Bool} {Q : V → Store → Prop} (h : Q (.inst 459 [(S "body", X), (S "low", .int (low z)), (S "high", .int 2)]) σ) : Wc g 5 (.ref 459) σ [X, .int (low z), .int 2] Q := by
  refine wc_new (clean_Repeat _).mks (by k_is) (by k_is) fun dx => ?_
  show Wc g 4 (.ref 449) _ _ _
  refine' wc_def [S "self", S "body", S "low", S "high"] ?ho ?hcd ?hb ?hl ?h ?c1 ?c2 ?c3 ?c4
  walk_at "DEF"
  intro L
  refine wss_cons (wx_expr ?_)
  refine we_methC (C := 397) (f := 380) (mc := .type "type") (pl := _) (gl_Loop _) (by k_is) (by k_is) (by k_is) (.inl (by k_is)) (by k_is) ?_
  refine wl_cons (we_name rfl (wl_cons (we_name rfl (wl_nil ?_))))
  refine Wc.wp ((loop_init (clean_Repeat _) (by k_is)).mono fun Z σ' ⟨hz, hs⟩ => ?_) (by exact Nat.le_of_ble_eq_true rfl)
  subst hs
  refine wss_cons (wx_if (wt_boolop (wall_or (wt_cmp (we_name rfl (we_int (lt_ints ⟨_, rfl, ?_⟩)))))))
  have e1 : decide (low z < 0) = false := by cases z <;> rfl
  rw [e1]
  refine wall_or (wt_cmp (we_name rfl (we_globI (gl_MOST _) (gt_ints ⟨_, rfl, ?_⟩))))
  have e2 : decide (40 < low z) = false := by cases z <;> rfl
  rw [e2]
  refine wall_nil (wss_nil ?_)
  refine wss_cons (wx_if (wt_boolop (wall_and (wt_cmp (we_name rfl (we_none (isnt_none rfl ⟨_, rfl, ?_⟩)))))))
  refine wall_and (wt_boolop (wall_or (wt_cmp (we_name rfl (we_name rfl (lt_ints ⟨_, rfl, ?_⟩))))))
  have e3 : decide ((2 : Int) < low z) = false := by cases z <;> rfl
  rw [e3]
  refine wall_or (wt_cmp (we_name rfl (we_globI (gl_MOST _) (gt_ints ⟨_, rfl, ?_⟩))))
  refine wall_nil (wss_nil ?_)
  refine wss_cons ?_
  refine wx_setattr rfl rfl (by exact Nat.le_of_ble_eq_true rfl) ?_ (clean_Repeat _).sa (clean_Repeat _).po (by k_is) (clean_Repeat _).hdk
  refine we_name rfl ⟨rfl, ?_⟩
  refine wss_cons ?_
  refine wx_setattr rfl rfl (by exact Nat.le_of_ble_eq_true rfl) ?_ (clean_Repeat _).sa (clean_Repeat _).po (by k_is) (clean_Repeat _).hdk
  refine we_name rfl ⟨rfl, ?_⟩
  refine wss_nil ?_
  exact ⟨rfl, _, _, rfl, h⟩

/-! ## told -/
def Nd.t : Nd → V
  | .empty => .tup [.str Kd.empty.nm]
  | .never => .tup [.str Kd.never.nm]
  | .chars b => .tup [.str Kd.chars.nm, spanV b]
  | .cat l r => .tup [.str Kd.cat.nm, l.t, r.t]
  | .alt l r => .tup [.str Kd.alt.nm, l.t, r.t]
  | .star x => .tup [.str Kd.star.nm, x.t]
  | .plus x => .tup [.str Kd.plus.nm, x.t]
  | .opt x => .tup [.str Kd.opt.nm, x.t]
  | .rep z x => .tup [.str Kd.rep.nm, x.t, .int (low z), .int 2]
def toldF : Kd → Addr
  | .empty => 252 | .never => 252 | .chars => 304 | .cat => 337 | .alt => 337 | .star => 394 | .plus => 394 | .opt => 394 | .rep => 456
theorem meth_told (P : Params) (n : Nd) : Meth P n.v (S "told") (toldF n.kd) := by
  cases n with
  | empty => exact (⟨269, [], rfl, by k_is, by k_is, by k_is, by k_is, rfl⟩ : Meth P _ (S "told") 252)
  | never => exact (⟨281, [], rfl, by k_is, by k_is, by k_is, by k_is, rfl⟩ : Meth P _ (S "told") 252)
  | chars b => exact (⟨307, [(S "charset", csV b)], rfl, by k_is, by k_is, by k_is, by k_is, rfl⟩ : Meth P _ (S "told") 304)
  | cat l r => exact (⟨352, [(S "left", l.v), (S "right", r.v)], rfl, by k_is, by k_is, by k_is, by k_is, rfl⟩ : Meth P _ (S "told") 337)
  | alt l r => exact (⟨364, [(S "left", l.v), (S "right", r.v)], rfl, by k_is, by k_is, by k_is, by k_is, rfl⟩ : Meth P _ (S "told") 337)
  | star x => exact (⟨409, [(S "body", x.v)], rfl, by k_is, by k_is, by k_is, by k_is, rfl⟩ : Meth P _ (S "told") 394)
  | plus x => exact (⟨421, [(S "body", x.v)], rfl, by k_is, by k_is, by k_is, by k_is, rfl⟩ : Meth P _ (S "told") 394)
  | opt x => exact (⟨433, [(S "body", x.v)], rfl, by k_is, by k_is, by k_is, by k_is, rfl⟩ : Meth P _ (S "told") 394)
  | rep z x => exact (⟨459, [(S "body", x.v), (S "low", .int (low z)), (S "high", .int 2)], rfl, by k_is, by k_is, by k_is, by k_is, rfl⟩ : Meth P _ (S "told") 456)
theorem c_key {g : G} {σ : Store} {b : Bool} {d : Nat} {Q : V → Store → Prop} (h : Q (spanV b) σ) : Wc g (d + 1) (.ref 224) σ [csV b] Q := by
  refine' wc_def [S "self"] ?ho ?hcd ?hb ?hl ?h ?c1 ?c2 ?c3 ?c4
  walk_at "DEF"
  intro L
  exact wss_cons (wx_return (we_attr (we_name rfl (ga_own (o := none) rfl rfl (by k_is) (by k_is) (by k_is) rfl h))))
theorem meth_key (P : Params) (b : Bool) : Meth P (csV b) (S "key") 224 := ⟨_, _, rfl, by k_is, by k_is, by k_is, by k_is, rfl⟩

theorem spineK_self {k : Kd} {n : Nd} (h : n.kd ≠ k ∨ (k ≠ .cat ∧ k ≠ .alt)) : spineK k n = [n] := by
  cases n <;> first | rfl | skip
  · simp only [spineK]; rw [if_neg]; rcases h with h | h; exact fun e => h e.symm; exact h.1
  · simp only [spineK]; rw [if_neg]; rcases h with h | h; exact fun e => h e.symm; exact h.2
theorem spineK_le {k : Kd} : ∀ (n : Nd), ∀ p ∈ spineK k n, p.ht ≤ n.ht ∧ p.size ≤ n.size
  | .cat l r => fun p hp => by
    simp only [spineK] at hp
    split at hp
    · rcases List.mem_append.mp hp with h | h
      · have := spineK_le l p h; simp only [Nd.ht, Nd.size]; lia
      · rw [List.mem_singleton.mp h]; simp only [Nd.ht, Nd.size]; lia
    · rw [List.mem_singleton.mp hp]; exact ⟨Nat.le_refl _, Nat.le_refl _⟩
  | .alt l r => fun p hp => by
    simp only [spineK] at hp
    split at hp
    · rcases List.mem_append.mp hp with h | h
      · have := spineK_le l p h; simp only [Nd.ht, Nd.size]; lia
      · rw [List.mem_singleton.mp h]; simp only [Nd.ht, Nd.size]; lia
    · rw [List.mem_singleton.mp hp]; exact ⟨Nat.le_refl _, Nat.le_refl _⟩
  | .empty => fun p hp => by simp only [spineK] at hp; rw [List.mem_singleton.mp hp]; exact ⟨Nat.le_refl _, Nat.le_refl _⟩
  | .never => fun p hp => by simp only [spineK] at hp; rw [List.mem_singleton.mp hp]; exact ⟨Nat.le_refl _, Nat.le_refl _⟩
  | .chars _ => fun p hp => by simp only [spineK] at hp; rw [List.mem_singleton.mp hp]; exact ⟨Nat.le_refl _, Nat.le_refl _⟩
  | .star _ => fun p hp => by simp only [spineK] at hp; rw [List.mem_singleton.mp hp]; exact ⟨Nat.le_refl _, Nat.le_refl _⟩
  | .plus _ => fun p hp => by simp only [spineK] at hp; rw [List.mem_singleton.mp hp]; exact ⟨Nat.le_refl _, Nat.le_refl _⟩
  | .opt _ => fun p hp => by simp only [spineK] at hp; rw [List.mem_singleton.mp hp]; exact ⟨Nat.le_refl _, Nat.le_refl _⟩
  | .rep _ _ => fun p hp => by simp only [spineK] at hp; rw [List.mem_singleton.mp hp]; exact ⟨Nat.le_refl _, Nat.le_refl _⟩
/-- a pair's parts lie lower -/
theorem spine_lt {n : Nd} (h : n.kd = .cat ∨ n.kd = .alt) : ∀ p ∈ n.spine, p.ht < n.ht ∧ p.size < n.size := by
  intro p hp
  cases n <;> simp only [Nd.kd] at h <;> first | (rcases h with h | h <;> cases h) | skip
  · rename_i l r
    simp only [Nd.spine, Nd.kd, spineK, if_true] at hp
    rcases List.mem_append.mp hp with h | h
    · have := spineK_le l p h; simp only [Nd.ht, Nd.size]; lia
    · rw [List.mem_singleton.mp h]; simp only [Nd.ht, Nd.size]; lia
  · rename_i l r
    simp only [Nd.spine, Nd.kd, spineK, if_true] at hp
    rcases List.mem_append.mp hp with h | h
    · have := spineK_le l p h; simp only [Nd.ht, Nd.size]; lia
    · rw [List.mem_singleton.mp h]; simp only [Nd.ht, Nd.size]; lia
def glue (k : Kd) (T : V) (ps : List Nd) : V := ps.foldl (fun T q => .tup [.str k.nm, T, q.t]) T
theorem spineK_t (k : Kd) (hk : k = .cat ∨ k = .alt) : ∀ n : Nd, ∃ p ps, spineK k n = p :: ps ∧ n.t = glue k p.t ps
  | .cat l r => by
    simp only [spineK]
    split
    · rename_i e
      obtain ⟨p, ps, e1, e2⟩ := spineK_t k hk l
      exact ⟨p, ps ++ [r], by rw [e1]; rfl, by subst e; simp only [glue, List.foldl_append, List.foldl_cons, List.foldl_nil, Nd.t]; rw [e2]; rfl⟩
    · exact ⟨_, [], rfl, rfl⟩
  | .alt l r => by
    simp only [spineK]
    split
    · rename_i e
      obtain ⟨p, ps, e1, e2⟩ := spineK_t k hk l
      exact ⟨p, ps ++ [r], by rw [e1]; rfl, by subst e; simp only [glue, List.foldl_append, List.foldl_cons, List.foldl_nil, Nd.t]; rw [e2]; rfl⟩
    · exact ⟨_, [], rfl, rfl⟩
  | .empty => ⟨_, [], rfl, rfl⟩
  | .never => ⟨_, [], rfl, rfl⟩
  | .chars _ => ⟨_, [], rfl, rfl⟩
  | .star _ => ⟨_, [], rfl, rfl⟩
  | .plus _ => ⟨_, [], rfl, rfl⟩
  | .opt _ => ⟨_, [], rfl, rfl⟩
  | .rep _ _ => ⟨_, [], rfl, rfl⟩
theorem spineK_len {k : Kd} : ∀ n : Nd, (spineK k n).length ≤ n.ht
  | .cat l r => by simp only [spineK]; split <;> simp only [List.length_append, List.length_cons, List.length_nil, Nd.ht] <;> (have := spineK_len (k := k) l; lia)
  | .alt l r => by simp only [spineK]; split <;> simp only [List.length_append, List.length_cons, List.length_nil, Nd.ht] <;> (have := spineK_len (k := k) l; lia)
  | .empty => Nat.le_refl _
  | .never => Nat.le_refl _
  | .chars _ => Nat.le_refl _
  | .star x => by simp [spineK, Nd.ht]
  | .plus x => by simp [spineK, Nd.ht]
  | .opt x => by simp [spineK, Nd.ht]
  | .rep _ x => by simp [spineK, Nd.ht]
theorem Nd.plain (n : Nd) : n.v.plain = true := by cases n <;> rfl

/-- what is at hand in a recursion over nodes -/
def ToldAt (g : G) (n : Nd) : Prop := ∀ (σ : Store) (Q : V → Store → Prop), n.ht ≤ 2 ^ 20 → Q n.t σ → Wc g (n.ht + 4) (.ref (toldF n.kd)) σ [n.v] Q
theorem told_pair {g : G} (n : Nd) (hk : n.kd = .cat ∨ n.kd = .alt) (ih : ∀ p, p.size < n.size → ToldAt g p) : ToldAt g n := by
  intro σ Q hz h
  have e : toldF n.kd = 337 := by rcases hk with e | e <;> rw [e] <;> rfl
  rw [e]
  obtain ⟨p, ps, e1, e2⟩ := spineK_t n.kd hk n
  have e1' : n.spine = p :: ps := e1
  have lt := spine_lt hk
  rw [e1'] at lt
  have hp1 := lt p (.head _)
  have hlen := spineK_len (k := n.kd) n
  rw [e1, List.length_cons] at hlen
  refine' wc_def (d := n.ht + 3) [S "self"] ?ho ?hcd ?hb ?hl ?h ?c1 ?c2 ?c3 ?c4
  walk_at "DEF"
  intro L
  refine wss_cons (wx_assign (we_callK (gl_spine _) (kp_468 _) (wl_cons (we_name rfl (wl_nil (Wc.wp (c_spine n hz ?_) (by show 2 ≤ n.ht + 3; lia)))))))
  rw [e1']
  refine wss_cons (wx_assign (we_methI (pl := _) (we_sub (we_name rfl (we_int (sub_list (j := 0) rfl rfl (by decide) ⟨_, meth_told _ p, wl_nil (Wc.wp (ih p hp1.2 σ _ (by lia) ?_) (by show p.ht + 4 ≤ n.ht + 3; lia))⟩))))))
  refine wss_for (fun i ρ' σ' => ρ'.lookup (S "self") = some n.v ∧ ρ'.lookup (S "text") = some (glue n.kd p.t (ps.take i)) ∧ σ' = σ) ?_
  refine we_slice (we_name rfl (we_int ⟨_, _, _, _, rfl, rfl, rfl, ?_, fun fz vs hr => pick_from hr 1, _, rfl, ⟨rfl, rfl, rfl⟩, ?_, ?_⟩))
  · simp only [List.length_map, List.length_cons]; lia
  · rintro i Y ρ' σ' hY ⟨h1, h2, rfl⟩
    have hq : ∃ q, ps[i]? = some q ∧ Y = q.v := by
      simp only [List.map_cons, List.drop_succ_cons, List.drop_zero, List.getElem?_map] at hY
      cases hps : ps[i]? with
      | none => rw [hps] at hY; cases hY
      | some q => rw [hps] at hY; exact ⟨q, rfl, (Option.some.inj hY).symm⟩
    obtain ⟨q, hq, rfl⟩ := hq
    have hlq := lt q (.tail _ (List.mem_of_getElem? hq))
    refine wss_cons (wx_assign (we_tuple (wl_cons (we_attr (we_name (lookup_skip (by decide) h1) (ga_name (wl_cons (we_name (lookup_skip (by decide) h2) (wl_cons (we_methI (pl := _) (we_name rfl ⟨_, meth_told _ q, wl_nil (Wc.wp (ih q hlq.2 _ _ (by lia) ?_) (by show q.ht + 4 ≤ n.ht + 3; lia))⟩)))))))))))
    refine wl_nil ⟨by exact Nat.le_of_ble_eq_true rfl, wss_nil ⟨?_, ?_, rfl⟩⟩
    · exact lookup_skip (by decide) (lookup_skip (by decide) h1)
    · rw [List.take_add_one, hq]
      simp only [glue, Option.toList_some, List.foldl_append, List.foldl_cons, List.foldl_nil]
      rfl
  · rintro ρ' σ' ⟨h1, h2, rfl⟩
    refine wss_cons (wx_return (we_name h2 ?_))
    simp only [List.map_cons, List.drop_succ_cons, List.drop_zero, List.length_map, List.take_length]
    rw [← e2]
    exact h
theorem told_plain {g : G} (n : Nd) (f : Addr) (hf : f = 252) (hn : n = .empty ∨ n = .never) {σ : Store} {Q : V → Store → Prop} (h : Q n.t σ) : Wc g (n.ht + 4) (.ref f) σ [n.v] Q := by
  subst hf
  refine' wc_def (d := n.ht + 3) [S "self"] ?ho ?hcd ?hb ?hl ?h ?c1 ?c2 ?c3 ?c4
  walk_at "DEF"
  intro L
  refine wss_cons (wx_return (we_tuple (wl_cons (we_attr (we_name rfl (ga_name (wl_nil ⟨by exact Nat.le_of_ble_eq_true rfl, ?_⟩)))))))
  rcases hn with rfl | rfl <;> exact h
theorem told_chars {g : G} (b : Bool) {σ : Store} {Q : V → Store → Prop} (h : Q (Nd.chars b).t σ) : Wc g 5 (.ref 304) σ [(Nd.chars b).v] Q := by
  refine' wc_def (d := 4) [S "self"] ?ho ?hcd ?hb ?hl ?h ?c1 ?c2 ?c3 ?c4
  walk_at "DEF"
  intro L
  refine wss_cons <| wx_return <| we_tuple <| wl_cons <| we_attr <| we_name rfl <| ga_name (n := .chars b) <| wl_cons <| we_methI (pl := _) <| we_attr <| we_name rfl <| ga_own (o := none) rfl rfl (by k_is) (by k_is) (by k_is) rfl ⟨_, meth_key _ b, ?_⟩
  refine wl_nil (Wc.wp (c_key (d := 1) (wl_nil ⟨by exact Nat.le_of_ble_eq_true rfl, h⟩)) (by exact Nat.le_of_ble_eq_true rfl))
theorem ga_body {g : G} {c : Cfg} {ρ : Env₁} {σ : Store} {ex : Bool} {Q : V → Store → Prop} {n x : Nd} (hn : n = .star x ∨ n = .plus x ∨ n = .opt x ∨ ∃ z, n = .rep z x) (h : Q x.v σ) : Wp g c ρ σ [n.v] Rep (op1 fun v => getAttr v (S "body") ex) Q := by
  rcases hn with rfl | rfl | rfl | ⟨z, rfl⟩
  · exact ga_own (o := none) rfl x.plain (by k_is) (by k_is) (by k_is) rfl h
  · exact ga_own (o := none) rfl x.plain (by k_is) (by k_is) (by k_is) rfl h
  · exact ga_own (o := none) rfl x.plain (by k_is) (by k_is) (by k_is) rfl h
  · exact ga_own (o := none) rfl x.plain (by k_is) (by k_is) (by k_is) rfl h
theorem told_loop {g : G} (n x : Nd) (hn : n = .star x ∨ n = .plus x ∨ n = .opt x) (ih : ToldAt g x) : ToldAt g n := by
  intro σ Q hz h
  have e : toldF n.kd = 394 := by rcases hn with rfl | rfl | rfl <;> rfl
  have e2 : n.t = .tup [.str n.kd.nm, x.t] ∧ n.ht = x.ht + 1 ∧ n.size = x.size + 1 := by rcases hn with rfl | rfl | rfl <;> exact ⟨rfl, rfl, rfl⟩
  rw [e]
  refine' wc_def (d := n.ht + 3) [S "self"] ?ho ?hcd ?hb ?hl ?h ?c1 ?c2 ?c3 ?c4
  walk_at "DEF"
  intro L
  refine wss_cons <| wx_return <| we_tuple <| wl_cons <| we_attr <| we_name rfl <| ga_name <| wl_cons <| we_methI (pl := _) <| we_attr <| we_name rfl <| ga_body (x := x) ?_ ⟨_, meth_told _ x, ?_⟩
  · rcases hn with h | h | h <;> simp [h]
  · refine wl_nil (Wc.wp (ih σ _ (by lia) (wl_nil ⟨by exact Nat.le_of_ble_eq_true rfl, ?_⟩)) (by show x.ht + 4 ≤ n.ht + 3; lia))
    rw [e2.1] at h
    exact h
theorem told_rep {g : G} (z : Bool) (x : Nd) (ih : ToldAt g x) : ToldAt g (.rep z x) := by
  intro σ Q hz h
  show Wc g (x.ht + 1 + 4) (.ref 456) σ _ Q
  simp only [Nd.ht] at hz
  refine' wc_def (d := x.ht + 4) [S "self"] ?ho ?hcd ?hb ?hl ?h ?c1 ?c2 ?c3 ?c4
  walk_at "DEF"
  intro L
  refine wss_cons <| wx_return <| we_tuple <| wl_cons <| we_attr <| we_name rfl <| ga_name (n := .rep z x) <| wl_cons <| we_methI (pl := _) <| we_attr <| we_name rfl <| ga_body (n := .rep z x) (x := x) (.inr (.inr (.inr ⟨z, rfl⟩))) ⟨_, meth_told _ x, ?_⟩
  refine wl_nil (Wc.wp (ih σ _ (by lia) ?_) (by show x.ht + 4 ≤ x.ht + 4; lia))
  refine wl_cons (we_attr (we_name rfl (ga_own (o := none) rfl rfl (by k_is) (by k_is) (by k_is) rfl ?_)))
  refine wl_cons (we_attr (we_name rfl (ga_own (o := none) rfl rfl (by k_is) (by k_is) (by k_is) rfl ?_)))
  exact wl_nil ⟨by exact Nat.le_of_ble_eq_true rfl, h⟩
theorem c_told {g : G} : ∀ n : Nd, ToldAt g n := by
  have all : ∀ k, ∀ n : Nd, n.size < k → ToldAt g n := by
    intro k
    induction k with
    | zero => intro n h; exact absurd h (Nat.not_lt_zero _)
    | succ k ih =>
      intro n hn
      cases n with
      | empty => exact fun σ Q _ h => told_plain .empty 252 rfl (.inl rfl) h
      | never => exact fun σ Q _ h => told_plain .never 252 rfl (.inr rfl) h
      | chars b => exact fun σ Q _ h => told_chars b h
      | cat l r => exact told_pair _ (.inl rfl) fun p hp => ih p (by lia)
      | alt l r => exact told_pair _ (.inr rfl) fun p hp => ih p (by lia)
      | star x => exact told_loop _ x (.inl rfl) (ih x (by simp only [Nd.size] at hn; lia))
      | plus x => exact told_loop _ x (.inr (.inl rfl)) (ih x (by simp only [Nd.size] at hn; lia))
      | opt x => exact told_loop _ x (.inr (.inr rfl)) (ih x (by simp only [Nd.size] at hn; lia))
      | rep z x => exact told_rep z x (ih x (by simp only [Nd.size] at hn; lia))
  exact fun n => all (n.size + 1) n (Nat.lt_succ_self _)
-- X4
def catA : List Nd → Nd
  | [] => .empty
  | p :: ps => ps.foldl .cat p
def altA : List Nd → Nd
  | [] => .never
  | p :: ps => ps.foldl .alt p
theorem map_drop1_get {p : Nd} {ps : List Nd} {i : Nat} {Y : V} (hY : (((p :: ps).map Nd.v).drop 1)[i]? = some Y) : ∃ q, ps[i]? = some q ∧ Y = q.v := by
  simp only [List.map_cons, List.drop_succ_cons, List.drop_zero, List.getElem?_map] at hY
  cases hps : ps[i]? with
  | none => rw [hps] at hY; cases hY
  | some q => rw [hps] at hY; exact ⟨q, rfl, (Option.some.inj hY).symm⟩
theorem c_cat_all {g : G} {σ : Store} (ns : List Nd) (hz : ns.length ≤ 2 ^ 20) {Q : V → Store → Prop} (h : Q (catA ns).v σ) : Wc g 4 (.ref 475) σ [.list (ns.map Nd.v)] Q := by
  refine' wc_def [S "nodes"] ?ho ?hcd ?hb ?hl ?h ?c1 ?c2 ?c3 ?c4
  walk_at "DEF"
  intro L
  refine wss_cons <| wx_if <| wt_cmp <| we_callB (gb_len _) bb_len <| wl_cons <| we_name rfl <| wl_nil <| len_list' (by simp only [List.length_map]; lia) <| we_int <| eq_ints ⟨_, rfl, ?_⟩
  cases ns with
  | nil =>
    exact wss_cons <| wx_return <| we_callK (gl_Empty _) (kp_269 _) <| wl_nil <| Wc.wp (new_Empty (d := 1) h) (by exact Nat.le_of_ble_eq_true rfl)
  | cons p ps =>
    have e0 : (((List.map Nd.v (p :: ps)).length : Int) == 0) = false := beq_eq_false_iff_ne.mpr (by simp only [List.map_cons, List.length_cons]; lia)
    rw [e0]
    refine wss_nil ?_
    simp only [List.length_cons] at hz
    refine wss_cons <| wx_assign <| we_sub <| we_name rfl <| we_int <| sub_list (j := 0) rfl rfl (by decide) ?_
    refine wss_for (fun i ρ' σ' => ρ'.lookup (S "node") = some (catA (p :: ps.take i)).v ∧ σ' = σ) ?_
    refine we_slice (we_name rfl (we_int ⟨_, _, _, _, rfl, rfl, rfl, ?_, fun fz vs hr => pick_from hr 1, _, rfl, ⟨rfl, rfl⟩, ?_, ?_⟩))
    · simp only [List.length_map, List.length_cons]; lia
    · rintro i Y ρ' σ' hY ⟨h1, rfl⟩
      obtain ⟨q, hq, rfl⟩ := map_drop1_get hY
      refine wss_cons <| wx_assign <| we_callK (gl_Cat _) (kp_352 _) <| wl_cons <| we_name (lookup_skip (by decide) h1) <| wl_cons <| we_name rfl <| wl_nil <| Wc.wp (new_Cat ?_) (by exact Nat.le_of_ble_eq_true rfl)
      refine wss_nil ⟨?_, rfl⟩
      rw [List.take_add_one, hq]
      simp only [catA, Option.toList_some, List.foldl_append, List.foldl_cons, List.foldl_nil]
      rfl
    · rintro ρ' σ' ⟨h1, rfl⟩
      refine wss_cons (wx_return (we_name h1 ?_))
      simp only [List.map_cons, List.drop_succ_cons, List.drop_zero, List.length_map, List.take_length]
      exact h
theorem c_alt_all {g : G} {σ : Store} (ns : List Nd) (hz : ns.length ≤ 2 ^ 20) {Q : V → Store → Prop} (h : Q (altA ns).v σ) : Wc g 4 (.ref 482) σ [.list (ns.map Nd.v)] Q := by
  refine' wc_def [S "nodes"] ?ho ?hcd ?hb ?hl ?h ?c1 ?c2 ?c3 ?c4
  walk_at "DEF"
  intro L
  refine wss_cons <| wx_if <| wt_cmp <| we_callB (gb_len _) bb_len <| wl_cons <| we_name rfl <| wl_nil <| len_list' (by simp only [List.length_map]; lia) <| we_int <| eq_ints ⟨_, rfl, ?_⟩
  cases ns with
  | nil =>
    exact wss_cons <| wx_return <| we_callK (gl_Never _) (kp_281 _) <| wl_nil <| Wc.wp (new_Never (d := 1) h) (by exact Nat.le_of_ble_eq_true rfl)
  | cons p ps =>
    have e0 : (((List.map Nd.v (p :: ps)).length : Int) == 0) = false := beq_eq_false_iff_ne.mpr (by simp only [List.map_cons, List.length_cons]; lia)
    rw [e0]
    refine wss_nil ?_
    simp only [List.length_cons] at hz
    refine wss_cons <| wx_assign <| we_sub <| we_name rfl <| we_int <| sub_list (j := 0) rfl rfl (by decide) ?_
    refine wss_for (fun i ρ' σ' => ρ'.lookup (S "node") = some (altA (p :: ps.take i)).v ∧ σ' = σ) ?_
    refine we_slice (we_name rfl (we_int ⟨_, _, _, _, rfl, rfl, rfl, ?_, fun fz vs hr => pick_from hr 1, _, rfl, ⟨rfl, rfl⟩, ?_, ?_⟩))
    · simp only [List.length_map, List.length_cons]; lia
    · rintro i Y ρ' σ' hY ⟨h1, rfl⟩
      obtain ⟨q, hq, rfl⟩ := map_drop1_get hY
      refine wss_cons <| wx_assign <| we_callK (gl_Alt _) (kp_364 _) <| wl_cons <| we_name (lookup_skip (by decide) h1) <| wl_cons <| we_name rfl <| wl_nil <| Wc.wp (new_Alt ?_) (by exact Nat.le_of_ble_eq_true rfl)
      refine wss_nil ⟨?_, rfl⟩
      rw [List.take_add_one, hq]
      simp only [altA, Option.toList_some, List.foldl_append, List.foldl_cons, List.foldl_nil]
      rfl
    · rintro ρ' σ' ⟨h1, rfl⟩
      refine wss_cons (wx_return (we_name h1 ?_))
      simp only [List.map_cons, List.drop_succ_cons, List.drop_zero, List.length_map, List.take_length]
      exact h

/-! ## can_be_empty -/
def canE : Nd → Bool
  | .empty => true
  | .never => false
  | .chars _ => false
  | .cat l r => canE l && canE r
  | .alt l r => canE l || canE r
  | .star _ => true
  | .plus x => canE x
  | .opt _ => true
  | .rep z x => !z || canE x
theorem canE_cat : ∀ n : Nd, (spineK .cat n).all canE = canE n
  | .cat l r => by simp only [spineK, if_true, List.all_append, canE_cat l, List.all_cons, List.all_nil, Bool.and_true, canE]
  | .alt l r => by simp [spineK, canE]
  | .empty => by simp [spineK]
  | .never => by simp [spineK]
  | .chars _ => by simp [spineK]
  | .star _ => by simp [spineK]
  | .plus _ => by simp [spineK]
  | .opt _ => by simp [spineK]
  | .rep _ _ => by simp [spineK]
theorem canE_alt : ∀ n : Nd, (spineK .alt n).any canE = canE n
  | .alt l r => by simp only [spineK, if_true, List.any_append, canE_alt l, List.any_cons, List.any_nil, Bool.or_false, canE]
  | .cat l r => by simp [spineK, canE]
  | .empty => by simp [spineK]
  | .never => by simp [spineK]
  | .chars _ => by simp [spineK]
  | .star _ => by simp [spineK]
  | .plus _ => by simp [spineK]
  | .opt _ => by simp [spineK]
  | .rep _ _ => by simp [spineK]
theorem map_get {ns : List Nd} {i : Nat} {Y : V} (hY : (ns.map Nd.v)[i]? = some Y) : ∃ q, ns[i]? = some q ∧ Y = q.v := by
  rw [List.getElem?_map] at hY
  cases hps : ns[i]? with
  | none => rw [hps] at hY; cases hY
  | some q => rw [hps] at hY; exact ⟨q, rfl, (Option.some.inj hY).symm⟩
/-- a test of a node's name -/
theorem wt_name {g : G} {c : Cfg} {ρ : Env₁} {σ : Store} {x w : Str} {p1 p2 p3 : Pos} {j : Nat} {n : Nd} {k : Kd} {Q : Bool → Store → Prop} (hx : ρ.lookup x = some n.v) (hw : ∀ k' : Kd, (k'.nm == w) = decide (k' = k)) (h : Q (decide (n.kd = k)) σ)
    (hd : (x == ("__debug__" : Str)) = false := by decide) : Wt g c ρ σ (.Compare (.Attribute (.Name x p1) (S "name") p2) [.Eq] [.Constant (.str w) j p3] p3) Q :=
  wt_cmp (we_attr (we_name hx (ga_name (we_str (eq_strs ⟨_, rfl, by rw [hw]; exact h⟩))) hd)) rfl
def CanAt (g : G) (n : Nd) : Prop := ∀ (σ : Store) (Q : V → Store → Prop), n.ht ≤ 2 ^ 20 → Q (.bool (canE n)) σ → Wc g (n.ht + 4) (.ref 531) σ [n.v] Q
theorem ga_low {g : G} {c : Cfg} {ρ : Env₁} {σ : Store} {ex : Bool} {Q : V → Store → Prop} {z : Bool} {x : Nd} (h : Q (.int (low z)) σ) : Wp g c ρ σ [(Nd.rep z x).v] Rep (op1 fun v => getAttr v (S "low") ex) Q :=
  ga_own (o := none) rfl rfl (by k_is) (by k_is) (by k_is) rfl h
theorem ga_high {g : G} {c : Cfg} {ρ : Env₁} {σ : Store} {ex : Bool} {Q : V → Store → Prop} {z : Bool} {x : Nd} (h : Q (.int 2) σ) : Wp g c ρ σ [(Nd.rep z x).v] Rep (op1 fun v => getAttr v (S "high") ex) Q :=
  ga_own (o := none) rfl rfl (by k_is) (by k_is) (by k_is) rfl h


theorem can_step {g : G} (n : Nd) (ih : ∀ p, p.size < n.size → CanAt g p) : CanAt g n := by
  intro σ Q hz h
  refine' wc_def (d := n.ht + 3) [S "node"] ?ho ?hcd ?hb ?hl ?h ?c1 ?c2 ?c3 ?c4
  walk_at "DEF"
  intro L
  refine wss_cons <| wx_if <| wt_boolop <| wall_or <| wt_cmp <| we_attr <| we_name rfl <| ga_name <| we_str <| eq_strs ⟨_, rfl, ?_⟩
  rw [is_empty]
  by_cases k1 : n.kd = .empty
  · rw [decide_eq_true k1]
    refine wss_cons <| wx_return <| we_bool ?_
    cases n <;> first | exact h | exact Kd.noConfusion k1
  rw [decide_eq_false k1]
  refine wall_or <| wt_cmp <| we_attr <| we_name rfl <| ga_name <| we_str <| eq_strs ⟨_, rfl, ?_⟩
  rw [is_star]
  by_cases k2 : n.kd = .star
  · rw [decide_eq_true k2]
    refine wss_cons <| wx_return <| we_bool ?_
    cases n <;> first | exact h | exact Kd.noConfusion k2
  rw [decide_eq_false k2]
  refine wall_or <| wt_cmp <| we_attr <| we_name rfl <| ga_name <| we_str <| eq_strs ⟨_, rfl, ?_⟩
  rw [is_opt]
  by_cases k3 : n.kd = .opt
  · rw [decide_eq_true k3]
    refine wss_cons <| wx_return <| we_bool ?_
    cases n <;> first | exact h | exact Kd.noConfusion k3
  rw [decide_eq_false k3]
  refine wall_nil <| wss_nil ?_
  refine wss_cons <| wx_if <| wt_boolop <| wall_or <| wt_cmp <| we_attr <| we_name rfl <| ga_name <| we_str <| eq_strs ⟨_, rfl, ?_⟩
  rw [is_never]
  by_cases k4 : n.kd = .never
  · rw [decide_eq_true k4]
    refine wss_cons <| wx_return <| we_bool ?_
    cases n <;> first | exact h | exact Kd.noConfusion k4
  rw [decide_eq_false k4]
  refine wall_or <| wt_cmp <| we_attr <| we_name rfl <| ga_name <| we_str <| eq_strs ⟨_, rfl, ?_⟩
  rw [is_chars]
  by_cases k5 : n.kd = .chars
  · rw [decide_eq_true k5]
    refine wss_cons <| wx_return <| we_bool ?_
    cases n <;> first | exact h | exact Kd.noConfusion k5
  rw [decide_eq_false k5]
  refine wall_nil <| wss_nil ?_
  refine wss_cons <| wx_if <| wt_cmp <| we_attr <| we_name rfl <| ga_name <| we_str <| eq_strs ⟨_, rfl, ?_⟩
  rw [is_cat]
  by_cases k6 : n.kd = .cat
  · rw [decide_eq_true k6]
    have lt := spine_lt (.inl k6)
    have e : canE n = n.spine.all canE := by rw [Nd.spine, k6, canE_cat]
    refine wss_for (fun i ρ' σ' => σ' = σ ∧ (n.spine.take i).all canE = true) ?_
    refine we_callK (gl_spine _) (kp_468 _) <| wl_cons <| we_name rfl <| wl_nil <| Wc.wp (c_spine n hz ?_) (by show 2 ≤ n.ht + 3; lia)
    refine ⟨_, rfl, ⟨rfl, rfl⟩, ?_, ?_⟩
    · rintro i Y ρ' σ' hY ⟨rfl, ha⟩
      obtain ⟨q, hq, rfl⟩ := map_get hY
      have hlq := lt q (List.mem_of_getElem? hq)
      refine wss_cons <| wx_if <| wt_not <| wt_val rfl <| we_callK (gl_can_be_empty _) (kp_531 _) <| wl_cons <| we_name rfl <| wl_nil <| Wc.wp (ih q hlq.2 _ _ (by lia) ⟨_, rfl, ?_⟩) (by show q.ht + 4 ≤ n.ht + 3; lia)
      by_cases hc : canE q = true
      · rw [hc]
        refine wss_nil (wss_nil ⟨rfl, ?_⟩)
        rw [List.take_add_one, hq]
        simp [ha, hc]
      · have hc : canE q = false := by simpa using hc
        rw [hc]
        refine wss_cons <| wx_return <| we_bool ?_
        have : canE n = false := by
          rw [e]
          exact List.all_eq_false.mpr ⟨q, List.mem_of_getElem? hq, by simp [hc]⟩
        rw [this] at h
        exact h
    · rintro ρ' σ' ⟨rfl, ha⟩
      rw [List.length_map, List.take_length, ← e] at ha
      refine wss_cons <| wx_return <| we_bool ?_
      rw [ha] at h
      exact h
  rw [decide_eq_false k6]
  refine wss_nil ?_
  refine wss_cons <| wx_if <| wt_cmp <| we_attr <| we_name rfl <| ga_name <| we_str <| eq_strs ⟨_, rfl, ?_⟩
  rw [is_alt]
  by_cases k7 : n.kd = .alt
  · rw [decide_eq_true k7]
    have lt := spine_lt (.inr k7)
    have e : canE n = n.spine.any canE := by rw [Nd.spine, k7, canE_alt]
    refine wss_for (fun i ρ' σ' => σ' = σ ∧ (n.spine.take i).any canE = false) ?_
    refine we_callK (gl_spine _) (kp_468 _) <| wl_cons <| we_name rfl <| wl_nil <| Wc.wp (c_spine n hz ?_) (by show 2 ≤ n.ht + 3; lia)
    refine ⟨_, rfl, ⟨rfl, rfl⟩, ?_, ?_⟩
    · rintro i Y ρ' σ' hY ⟨rfl, ha⟩
      obtain ⟨q, hq, rfl⟩ := map_get hY
      have hlq := lt q (List.mem_of_getElem? hq)
      refine wss_cons <| wx_if <| wt_val rfl <| we_callK (gl_can_be_empty _) (kp_531 _) <| wl_cons <| we_name rfl <| wl_nil <| Wc.wp (ih q hlq.2 _ _ (by lia) ⟨_, rfl, ?_⟩) (by show q.ht + 4 ≤ n.ht + 3; lia)
      by_cases hc : canE q = true
      · rw [hc]
        refine wss_cons <| wx_return <| we_bool ?_
        have : canE n = true := by
          rw [e]
          exact List.any_eq_true.mpr ⟨q, List.mem_of_getElem? hq, hc⟩
        rw [this] at h
        exact h
      · have hc : canE q = false := by simpa using hc
        rw [hc]
        refine wss_nil (wss_nil ⟨rfl, ?_⟩)
        rw [List.take_add_one, hq]
        simp [ha, hc]
    · rintro ρ' σ' ⟨rfl, ha⟩
      rw [List.length_map, List.take_length, ← e] at ha
      refine wss_cons <| wx_return <| we_bool ?_
      rw [ha] at h
      exact h
  rw [decide_eq_false k7]
  refine wss_nil ?_
  refine wss_cons <| wx_if <| wt_boolop <| wall_and <| wt_cmp <| we_attr <| we_name rfl <| ga_name <| we_str <| eq_strs ⟨_, rfl, ?_⟩
  rw [is_rep]
  cases n with
  | empty => exact absurd rfl k1
  | never => exact absurd rfl k4
  | chars _ => exact absurd rfl k5
  | cat _ _ => exact absurd rfl k6
  | alt _ _ => exact absurd rfl k7
  | star _ => exact absurd rfl k2
  | opt _ => exact absurd rfl k3
  | plus x =>
    refine wss_nil ?_
    refine wss_cons <| wx_return <| we_callK (gl_can_be_empty _) (kp_531 _) <| wl_cons <| we_attr <| we_name rfl <| ga_body (n := .plus x) (x := x) (.inr (.inl rfl)) <| wl_nil <| Wc.wp (ih x (by simp only [Nd.size]; lia) _ _ (by simp only [Nd.ht] at hz; lia) h) (by show x.ht + 4 ≤ (x.ht + 1) + 3; lia)
  | rep z x =>
    refine wall_and <| wt_cmp <| we_attr <| we_name rfl <| ga_low <| we_int <| eq_ints ⟨_, rfl, ?_⟩
    cases z
    · exact wall_nil <| wss_cons <| wx_return <| we_bool h
    · refine wss_nil ?_
      refine wss_cons <| wx_return <| we_callK (gl_can_be_empty _) (kp_531 _) <| wl_cons <| we_attr <| we_name rfl <| ga_body (n := .rep true x) (x := x) (.inr (.inr (.inr ⟨_, rfl⟩))) <| wl_nil <| Wc.wp (ih x (by simp only [Nd.size]; lia) _ _ (by simp only [Nd.ht] at hz; lia) h) (by show x.ht + 4 ≤ (x.ht + 1) + 3; lia)
theorem c_can {g : G} : ∀ n : Nd, CanAt g n := by
  have all : ∀ k, ∀ n : Nd, n.size < k → CanAt g n := by
    intro k
    induction k with
    | zero => intro n h; exact absurd h (Nat.not_lt_zero _)
    | succ k ih => intro n hn; exact can_step n fun p hp => ih p (by lia)
  exact fun n => all (n.size + 1) n (Nat.lt_succ_self _)
-- X5
/-! ## without_empty -/
mutual
/-- what may come back for a node -/
inductive Bare : Nd → Nd → Prop
  | keep {n : Nd} : canE n = false → Bare n n
  | empty : Bare .empty .never
  | cat {n m : Nd} : canE n = true → n.kd = .cat → BareRow n.spine m → Bare n m
  | alt {n : Nd} {ms : List Nd} : canE n = true → n.kd = .alt → BareAll n.spine ms → Bare n (altA ms)
  | star {x y : Nd} : Bare x y → Bare (.star x) (.plus y)
  | plus {x y : Nd} : canE x = true → Bare x y → Bare (.plus x) (.plus y)
  | opt {x y : Nd} : Bare x y → Bare (.opt x) y
  | rep {z : Bool} {x y : Nd} : canE (.rep z x) = true → Bare x y → Bare (.rep z x) (.rep true y)
/-- .. for a row of nodes -/
inductive BareRow : List Nd → Nd → Prop
  | one {p m : Nd} : Bare p m → BareRow [p] m
  | more {ps : List Nd} {l r : Nd} : 2 ≤ ps.length → BareRow (ps.take (ps.length / 2)) l → BareRow (ps.drop (ps.length / 2)) r → BareRow ps (.alt (catA (l :: ps.drop (ps.length / 2))) r)
inductive BareAll : List Nd → List Nd → Prop
  | nil : BareAll [] []
  | cons {a b : Nd} {as bs : List Nd} : Bare a b → BareAll as bs → BareAll (a :: as) (b :: bs)
end
theorem BareAll.snoc {a b : Nd} : ∀ {as bs : List Nd}, BareAll as bs → Bare a b → BareAll (as ++ [a]) (bs ++ [b])
  | _, _, .nil, h => .cons h .nil
  | _, _, .cons k r, h => .cons k (r.snoc h)
def psum (ps : List Nd) : Nat := (ps.map Nd.size).sum
theorem psum_len (ps : List Nd) : ps.length ≤ psum ps := by
  induction ps with
  | nil => exact Nat.le_refl _
  | cons p ps ih => have := p.size_pos; simp only [psum, List.map_cons, List.sum_cons, List.length_cons] at ih ⊢; lia
theorem psum_split (ps : List Nd) (k : Nat) : psum (ps.take k) + psum (ps.drop k) = psum ps := by
  unfold psum
  rw [← List.sum_append, ← List.map_append, List.take_append_drop]
theorem spineK_sum {k : Kd} : ∀ n : Nd, psum (spineK k n) + (spineK k n).length = n.size + 1
  | .cat l r => by
    simp only [spineK]
    split
    · have := spineK_sum (k := k) l
      simp only [psum, List.map_append, List.sum_append, List.map_cons, List.map_nil, List.sum_cons, List.sum_nil, List.length_append, List.length_cons, List.length_nil, Nd.size] at this ⊢
      lia
    · simp [psum]
  | .alt l r => by
    simp only [spineK]
    split
    · have := spineK_sum (k := k) l
      simp only [psum, List.map_append, List.sum_append, List.map_cons, List.map_nil, List.sum_cons, List.sum_nil, List.length_append, List.length_cons, List.length_nil, Nd.size] at this ⊢
      lia
    · simp [psum]
  | .empty => by simp [psum, spineK]
  | .never => by simp [psum, spineK]
  | .chars _ => by simp [psum, spineK]
  | .star _ => by simp [psum, spineK]
  | .plus _ => by simp [psum, spineK]
  | .opt _ => by simp [psum, spineK]
  | .rep _ _ => by simp [psum, spineK]
theorem spineK_pos {k : Kd} : ∀ n : Nd, 1 ≤ (spineK k n).length
  | .cat l r => by simp only [spineK]; split <;> simp
  | .alt l r => by simp only [spineK]; split <;> simp
  | .empty => by simp [spineK]
  | .never => by simp [spineK]
  | .chars _ => by simp [spineK]
  | .star _ => by simp [spineK]
  | .plus _ => by simp [spineK]
  | .opt _ => by simp [spineK]
  | .rep _ _ => by simp [spineK]
theorem spine_two {n : Nd} (h : n.kd = .cat ∨ n.kd = .alt) : 2 ≤ n.spine.length := by
  cases n <;> simp only [Nd.kd] at h <;> first | (rcases h with h | h <;> cases h) | skip
  · rename_i l r
    have := spineK_pos (k := .cat) l
    simp only [Nd.spine, Nd.kd, spineK, if_true, List.length_append, List.length_cons, List.length_nil]; lia
  · rename_i l r
    have := spineK_pos (k := .alt) l
    simp only [Nd.spine, Nd.kd, spineK, if_true, List.length_append, List.length_cons, List.length_nil]; lia

def WeAt (g : G) (n : Nd) : Prop := ∀ (σ : Store) (Q : V → Store → Prop), n.size ≤ 2 ^ 10 → (∀ m, Bare n m → Q m.v σ) → Wc g (3 * n.size + 8) (.ref 543) σ [n.v] Q
theorem half_int (k : Nat) : ((k : Int).fdiv 2) = ((k / 2 : Nat) : Int) := by
  rw [Int.fdiv_eq_ediv_of_nonneg _ (by decide)]; lia
theorem c_row {g : G} : ∀ (k : Nat) (ps : List Nd), ps.length ≤ k → 1 ≤ ps.length → psum ps + ps.length ≤ 2 ^ 10 + 1 → (∀ p ∈ ps, WeAt g p) → ∀ (σ : Store) (Q : V → Store → Prop), (∀ m, BareRow ps m → Q m.v σ) → Wc g (3 * psum ps + ps.length + 8) (.ref 538) σ [.list (ps.map Nd.v)] Q := by
  intro k
  induction k with
  | zero => intro ps h1 h2; lia
  | succ k ih =>
    intro ps hk h1 hz hw σ Q h
    refine' wc_def (d := 3 * psum ps + ps.length + 7) [S "parts"] ?ho ?hcd ?hb ?hl ?h ?c1 ?c2 ?c3 ?c4
    walk_at "DEF"
    intro L
    refine wss_cons <| wx_if <| wt_cmp <| we_callB (gb_len _) bb_len <| wl_cons <| we_name rfl <| wl_nil <| len_list' (by simp only [List.length_map]; lia) <| we_int <| eq_ints ⟨_, rfl, ?_⟩
    by_cases h2 : ps.length = 1
    · obtain ⟨p, rfl⟩ := List.length_eq_one_iff.mp h2
      refine wss_cons <| wx_return <| we_callK (gl_without_empty _) (kp_543 _) <| wl_cons <| we_sub <| we_name rfl <| we_int <| sub_list (j := 0) rfl rfl (by decide) <| wl_nil <| Wc.wp (hw p (.head _) _ _ ?_ fun m hm => h m (.one hm)) ?_
      · simp only [psum, List.map_cons, List.map_nil, List.sum_cons, List.sum_nil] at hz; lia
      · show 3 * p.size + 8 ≤ 3 * psum [p] + 1 + 7
        simp only [psum, List.map_cons, List.map_nil, List.sum_cons, List.sum_nil]; lia
    · have e0 : (((List.map Nd.v ps).length : Int) == 1) = false := beq_eq_false_iff_ne.mpr (by simp only [List.length_map]; lia)
      rw [e0]
      refine wss_nil ?_
      refine wss_cons <| wx_assign <| we_bin <| we_callB (gb_len _) bb_len <| wl_cons <| we_name rfl <| wl_nil <| len_list' (by simp only [List.length_map]; lia) <| we_int <| div_ints (by decide) (PyProof.noPylong_small (by decide)) ?_
      rw [List.length_map, half_int]
      have l1 : (ps.take (ps.length / 2)).length = ps.length / 2 := by rw [List.length_take]; lia
      have l2 : (ps.drop (ps.length / 2)).length = ps.length - ps.length / 2 := by rw [List.length_drop]
      have p1 := psum_split ps (ps.length / 2)
      have p2 := psum_len (ps.take (ps.length / 2))
      have p3 := psum_len (ps.drop (ps.length / 2))
      refine wss_cons <| wx_return <| we_callK (gl_Alt _) (kp_364 _) <| wl_cons <| we_callK (gl_cat_all _) (kp_475 _) <| wl_cons <| we_bin <| we_list <| wl_cons <| we_callK (gl_row_without_empty _) (kp_538 _) <| wl_cons <| we_slice <| we_name rfl <| we_name (X := .int ((ps.length / 2 : Nat) : Int)) rfl
        ⟨_, _, some ((ps.length / 2 : Nat) : Int), (ps.take (ps.length / 2)).map Nd.v, rfl, rfl, rfl, by simp only [List.length_map]; lia, fun fz vs hr => by rw [List.map_take]; exact pick_upto hr _, wl_nil <| Wc.wp (ih (ps.take (ps.length / 2)) (by lia) (by lia) (by lia) (fun p hp => hw p (List.mem_of_mem_take hp)) _ _ fun l hl => ?_) ?_⟩
      rotate_left
      · show 3 * psum (ps.take (ps.length / 2)) + (ps.take (ps.length / 2)).length + 8 ≤ 3 * psum ps + ps.length + 7
        lia
      refine wl_nil ⟨by exact Nat.le_of_ble_eq_true rfl, ?_⟩
      refine we_slice <| we_name rfl <| we_name (X := .int ((ps.length / 2 : Nat) : Int)) rfl ⟨_, some ((ps.length / 2 : Nat) : Int), _, (ps.drop (ps.length / 2)).map Nd.v, rfl, rfl, rfl, by simp only [List.length_map]; lia, fun fz vs hr => by rw [List.map_drop]; exact pick_from hr _, ?_⟩
      refine add_lists' (by simp only [List.length_map, List.length_cons, List.length_nil]; lia) ?_
      refine wl_nil <| Wc.wp (c_cat_all (l :: ps.drop (ps.length / 2)) (by simp only [List.length_cons]; lia) ?_) ?_
      rotate_left
      · show 4 ≤ 3 * psum ps + ps.length + 7
        lia
      refine wl_cons <| we_callK (gl_row_without_empty _) (kp_538 _) <| wl_cons <| we_slice <| we_name rfl <| we_name (X := .int ((ps.length / 2 : Nat) : Int)) rfl ⟨_, some ((ps.length / 2 : Nat) : Int), _, (ps.drop (ps.length / 2)).map Nd.v, rfl, rfl, rfl, by simp only [List.length_map]; lia, fun fz vs hr => by rw [List.map_drop]; exact pick_from hr _, ?_⟩
      refine wl_nil <| Wc.wp (ih (ps.drop (ps.length / 2)) (by lia) (by lia) (by lia) (fun p hp => hw p (List.mem_of_mem_drop hp)) _ _ fun r hr => ?_) ?_
      rotate_left
      · show 3 * psum (ps.drop (ps.length / 2)) + (ps.drop (ps.length / 2)).length + 8 ≤ 3 * psum ps + ps.length + 7
        lia
      exact wl_nil <| Wc.wp (new_Alt (h _ (.more (by lia) hl hr))) (by show 3 ≤ 3 * psum ps + ps.length + 7; lia)

theorem we_step {g : G} (n : Nd) (ih : ∀ p, p.size < n.size → WeAt g p) : WeAt g n := by
  intro σ Q hz h
  have hht := n.ht_size
  have hsp := n.size_pos
  refine' wc_def (d := 3 * n.size + 7) [S "node"] ?ho ?hcd ?hb ?hl ?h ?c1 ?c2 ?c3 ?c4
  walk_at "DEF"
  intro L
  refine wss_cons <| wx_if <| wt_not <| wt_val rfl <| we_callK (gl_can_be_empty _) (kp_531 _) <| wl_cons <| we_name rfl <| wl_nil <| Wc.wp (c_can n _ _ (by lia) ⟨_, rfl, ?_⟩) (by show n.ht + 4 ≤ 3 * n.size + 7; lia)
  cases hc : canE n with
  | false => exact wss_cons <| wx_return <| we_name rfl <| h n (.keep hc)
  | true =>
  refine wss_nil ?_
  refine wss_cons <| wx_if <| wt_cmp <| we_attr <| we_name rfl <| ga_name <| we_str <| eq_strs ⟨_, rfl, ?_⟩
  rw [is_cat]
  by_cases k1 : n.kd = .cat
  · rw [decide_eq_true k1]
    have lt := spine_lt (.inl k1)
    have e : psum n.spine + n.spine.length = n.size + 1 := spineK_sum n
    have e2 := spine_two (.inl k1)
    refine wss_cons <| wx_return <| we_callK (gl_row_without_empty _) (kp_538 _) <| wl_cons <| we_callK (gl_spine _) (kp_468 _) <| wl_cons <| we_name rfl <| wl_nil <| Wc.wp (c_spine n (by lia) ?_) (by show 2 ≤ 3 * n.size + 7; lia)
    refine wl_nil <| Wc.wp (c_row n.spine.length n.spine (Nat.le_refl _) (by lia) (by lia) (fun p hp => ih p (lt p hp).2) _ _ fun m hm => h m (.cat hc k1 hm)) ?_
    show 3 * psum n.spine + n.spine.length + 8 ≤ 3 * n.size + 7
    lia
  rw [decide_eq_false k1]
  refine wss_nil ?_
  refine wss_cons <| wx_if <| wt_cmp <| we_attr <| we_name rfl <| ga_name <| we_str <| eq_strs ⟨_, rfl, ?_⟩
  rw [is_alt]
  by_cases k2 : n.kd = .alt
  · rw [decide_eq_true k2]
    have lt := spine_lt (.inr k2)
    have e : psum n.spine + n.spine.length = n.size + 1 := spineK_sum n
    have e3 := psum_len n.spine
    refine wss_cons <| wx_return <| we_callK (gl_alt_all _) (kp_482 _) <| wl_cons <| we_comp [] [] lies_none <| we_callK (gl_spine _) (kp_468 _) <| wl_cons <| we_name rfl <| wl_nil <| Wc.wp (c_spine n (by lia) ?_) (by show 2 ≤ 3 * n.size + 7; lia)
    refine walk_map (n.spine.map Nd.v) (fun i acc => ∃ ms, acc = ms.map Nd.v ∧ BareAll (n.spine.take i) ms) (itr_list _ _) (by simp only [List.length_map]; lia) ⟨[], rfl, .nil⟩ ?_ ?_
    · rintro C D i Y acc ρ' hY ⟨ms, rfl, hms⟩ _
      obtain ⟨q, hq, rfl⟩ := map_get hY
      have hlq := lt q (List.mem_of_getElem? hq)
      refine we_callK (gl_without_empty _) (kp_543 _) <| wl_cons <| we_name rfl <| wl_nil <| Wc.wp (ih q hlq.2 _ _ (by lia) fun m hm => ⟨rfl, ms ++ [m], by simp, ?_⟩) (by show 3 * q.size + 8 ≤ 3 * n.size + 7; lia)
      rw [List.take_add_one, hq]
      exact hms.snoc hm
    · rintro acc ⟨ms, rfl, hms⟩
      rw [List.length_map, List.take_length] at hms
      have hl : ∀ {as bs : List Nd}, BareAll as bs → bs.length = as.length := by
        intro as bs h
        induction as generalizing bs with
        | nil => cases h; rfl
        | cons a as ih => cases h with | cons _ r => simp [ih r]
      exact wl_nil <| Wc.wp (c_alt_all ms (by rw [hl hms]; lia) (h _ (.alt hc k2 hms))) (by show 4 ≤ 3 * n.size + 7; lia)
  rw [decide_eq_false k2]
  refine wss_nil ?_
  refine wss_cons <| wx_if <| wt_boolop <| wall_or <| wt_cmp <| we_attr <| we_name rfl <| ga_name <| we_str <| eq_strs ⟨_, rfl, ?_⟩
  rw [is_star]
  cases n with
  | never => cases hc
  | chars _ => cases hc
  | cat _ _ => exact absurd rfl k1
  | alt _ _ => exact absurd rfl k2
  | star x =>
    refine wss_cons <| wx_return <| we_callK (gl_Plus _) (kp_421 _) <| wl_cons <| we_callK (gl_without_empty _) (kp_543 _) <| wl_cons <| we_attr <| we_name rfl <| ga_body (n := .star x) (x := x) (.inl rfl) <| wl_nil <| Wc.wp (ih x (by simp only [Nd.size]; lia) _ _ (by simp only [Nd.size] at hz; lia) fun m hm => ?_) (by show 3 * x.size + 8 ≤ 3 * (x.size + 1) + 7; lia)
    exact wl_nil <| Wc.wp (new_Plus (h (.plus m) (.star hm))) (by show 3 ≤ 3 * (x.size + 1) + 7; lia)
  | empty =>
    refine wall_or <| wt_cmp <| we_attr <| we_name rfl <| ga_name (n := .empty) <| we_str <| eq_strs ⟨_, rfl, ?_⟩
    rw [is_plus]
    refine wall_nil <| wss_nil ?_
    refine wss_cons <| wx_if <| wt_cmp <| we_attr <| we_name rfl <| ga_name (n := .empty) <| we_str <| eq_strs ⟨_, rfl, ?_⟩
    rw [is_opt]
    refine wss_nil ?_
    refine wss_cons <| wx_if <| wt_boolop <| wall_and <| wt_cmp <| we_attr <| we_name rfl <| ga_name (n := .empty) <| we_str <| eq_strs ⟨_, rfl, ?_⟩
    rw [is_rep]
    refine wss_nil ?_
    exact wss_cons <| wx_return <| we_callK (gl_Never _) (kp_281 _) <| wl_nil <| Wc.wp (new_Never (d := 1) (h .never .empty)) (by exact Nat.le_of_ble_eq_true rfl)
  | plus x =>
    refine wall_or <| wt_cmp <| we_attr <| we_name rfl <| ga_name (n := .plus x) <| we_str <| eq_strs ⟨_, rfl, ?_⟩
    rw [is_plus]
    refine wss_cons <| wx_return <| we_callK (gl_Plus _) (kp_421 _) <| wl_cons <| we_callK (gl_without_empty _) (kp_543 _) <| wl_cons <| we_attr <| we_name rfl <| ga_body (n := .plus x) (x := x) (.inr (.inl rfl)) <| wl_nil <| Wc.wp (ih x (by simp only [Nd.size]; lia) _ _ (by simp only [Nd.size] at hz; lia) fun m hm => ?_) (by show 3 * x.size + 8 ≤ 3 * (x.size + 1) + 7; lia)
    exact wl_nil <| Wc.wp (new_Plus (h (.plus m) (.plus hc hm))) (by show 3 ≤ 3 * (x.size + 1) + 7; lia)
  | opt x =>
    refine wall_or <| wt_cmp <| we_attr <| we_name rfl <| ga_name (n := .opt x) <| we_str <| eq_strs ⟨_, rfl, ?_⟩
    rw [is_plus]
    refine wall_nil <| wss_nil ?_
    refine wss_cons <| wx_if <| wt_cmp <| we_attr <| we_name rfl <| ga_name (n := .opt x) <| we_str <| eq_strs ⟨_, rfl, ?_⟩
    rw [is_opt]
    exact wss_cons <| wx_return <| we_callK (gl_without_empty _) (kp_543 _) <| wl_cons <| we_attr <| we_name rfl <| ga_body (n := .opt x) (x := x) (.inr (.inr (.inl rfl))) <| wl_nil <| Wc.wp (ih x (by simp only [Nd.size]; lia) _ _ (by simp only [Nd.size] at hz; lia) fun m hm => h m (.opt hm)) (by show 3 * x.size + 8 ≤ 3 * (x.size + 1) + 7; lia)
  | rep z x =>
    refine wall_or <| wt_cmp <| we_attr <| we_name rfl <| ga_name (n := .rep z x) <| we_str <| eq_strs ⟨_, rfl, ?_⟩
    rw [is_plus]
    refine wall_nil <| wss_nil ?_
    refine wss_cons <| wx_if <| wt_cmp <| we_attr <| we_name rfl <| ga_name (n := .rep z x) <| we_str <| eq_strs ⟨_, rfl, ?_⟩
    rw [is_opt]
    refine wss_nil ?_
    refine wss_cons <| wx_if <| wt_boolop <| wall_and <| wt_cmp <| we_attr <| we_name rfl <| ga_name (n := .rep z x) <| we_str <| eq_strs ⟨_, rfl, ?_⟩
    rw [is_rep]
    refine wall_and <| wt_cmp <| we_attr <| we_name rfl <| ga_high <| we_int <| ne_ints ⟨_, rfl, ?_⟩
    refine wall_nil ?_
    refine wss_cons <| wx_return <| we_callK (gl_Repeat _) (kp_459 _) <| wl_cons <| we_callK (gl_without_empty _) (kp_543 _) <| wl_cons <| we_attr <| we_name rfl <| ga_body (n := .rep z x) (x := x) (.inr (.inr (.inr ⟨z, rfl⟩))) <| wl_nil <| Wc.wp (ih x (by simp only [Nd.size]; lia) _ _ (by simp only [Nd.size] at hz; lia) fun m hm => ?_) (by show 3 * x.size + 8 ≤ 3 * (x.size + 1) + 7; lia)
    refine wl_cons <| we_int <| wl_cons <| we_attr <| we_name rfl <| ga_high ?_
    exact wl_nil <| Wc.wp (new_Repeat (z := true) (h (.rep true m) (.rep hc hm))) (by show 5 ≤ 3 * (x.size + 1) + 7; lia)
theorem c_we {g : G} : ∀ n : Nd, WeAt g n := by
  have all : ∀ k, ∀ n : Nd, n.size < k → WeAt g n := by
    intro k
    induction k with
    | zero => intro n h; exact absurd h (Nat.not_lt_zero _)
    | succ k ih => intro n hn; exact we_step n fun p hp => ih p (by lia)
  exact fun n => all (n.size + 1) n (Nat.lt_succ_self _)
-- X6
theorem put_put {σ : Store} {a : Addr} {x y : Cel} : put (put σ a x) a y = put σ a y := by
  unfold put
  rw [List.map_map]
  refine List.map_congr_left fun p _ => ?_
  simp only [Function.comp]
  by_cases h : p.1 = a
  · simp [h]
  · simp [h]
theorem lookup_put {σ : Store} {a : Addr} {x y : Cel} (h : σ.lookup a = some x) : (put σ a y).lookup a = some y := by
  induction σ with
  | nil => cases h
  | cons p r ih =>
    obtain ⟨b, z⟩ := p
    rw [List.lookup_cons] at h
    by_cases hb : a = b
    · subst hb; simp [put]
    · rw [beq_eq_false_iff_ne.mpr hb] at h
      have := ih h
      have hne : (b = a) = False := eq_false (Ne.symm hb)
      show List.lookup a ((if b = a then (a, y) else (b, z)) :: put r a y) = some y
      rw [if_neg (Ne.symm hb), List.lookup_cons, beq_eq_false_iff_ne.mpr hb]
      exact this

theorem c_pen {g : G} {σ : Store} {d : Nat} {Q : V → Store → Prop} (hz : g.svs.length ≤ 2 ^ 24) (h : ∀ a N, a ∉ σ.map (·.1) → 0 ≤ N → Q (.cell a) ((a, .arr [.int N, .int 0]) :: σ)) : Wc g (d + 1) (.ref 557) σ [.raw (.ref g.scr)] Q := by
  refine' wc_def [S "script"] ?ho ?hcd ?hb ?hl ?h ?c1 ?c2 ?c3 ?c4
  walk_at "DEF"
  intro L
  refine wss_cons <| wx_assign <| we_int ?_
  refine wss_for (fun i ρ' σ' => ∃ N : Int, 0 ≤ N ∧ ρ'.lookup (S "number") = some (.int N) ∧ σ' = σ) ?_
  refine we_script (a := 30) (we_name rfl (we_int ⟨rfl, rfl, rfl, hz, _, rfl, ⟨11, by decide, rfl, rfl⟩, ?_, ?_⟩))
  · rintro i Y ρ' σ' hY ⟨N, hN, h1, rfl⟩
    obtain ⟨k, rfl⟩ : ∃ k, Y = .int k := by
      rw [List.getElem?_map] at hY
      cases h : (g.sns.take 30)[i]? with
      | none => rw [h] at hY; cases hY
      | some k => rw [h] at hY; exact ⟨k, (Option.some.inj hY).symm⟩
    refine wss_cons <| wx_assign <| we_bin <| we_bin <| we_name (lookup_skip (by decide) h1) <| we_int <| mul_ints (.of_right (by decide)) ?_
    refine we_bin <| we_bin <| we_bin <| we_int <| we_callB (gb_abs _) bb_abs <| wl_cons <| we_callT (gb_int _) bt_int <| we_name rfl <| int_int' <| wl_nil <| abs_int' <| mul_ints (.of_left (by decide)) ?_
    refine we_callT (gb_int _) bt_int <| we_cmp <| we_name rfl <| we_int <| lt_ints <| int_bool' <| add_ints ?_
    refine we_bin <| we_int <| we_int <| pow_ints (by decide) (by decide +kernel) ?_
    refine mod_ints (by decide +kernel) <| add_ints ?_
    refine wss_nil ⟨_, ?_, rfl, rfl⟩
    refine Int.add_nonneg (Int.mul_nonneg hN (by decide)) (Int.fmod_nonneg_of_pos _ (by decide +kernel))
  · rintro ρ' σ' ⟨N, hN, h1, rfl⟩
    refine wss_cons <| wx_return <| we_arr_cell <| wl_cons <| we_name h1 <| wl_cons <| we_int <| wl_nil ⟨by exact Nat.le_of_ble_eq_true rfl, fun a ha => h a N ha hN⟩

theorem c_draw {g : G} {σ : Store} {d : Nat} {a : Addr} {n k many : Int} {Q : V → Store → Prop} (hl : σ.lookup a = some (.arr [.int n, .int k])) (hn : 0 ≤ n) (hk : 0 ≤ k) (hk' : k ≤ 10000) (hm : 0 < many) (hm' : many < 1000)
    (h : ∀ n' k' t, 0 ≤ n' → 0 ≤ k' → k' ≤ k + 1 → 0 ≤ t → t < many → Q (.int t) (put σ a (.arr [.int n', .int k']))) : Wc g (d + 1) (.ref 564) σ [.cell a, .int many] Q := by
  refine' wc_def [S "pen", S "many"] ?ho ?hcd ?hb ?hl ?h ?c1 ?c2 ?c3 ?c4
  walk_at "DEF"
  intro L
  refine wss_if (fun ρ' σ' => ∃ n₁ k₁ : Int, 0 ≤ n₁ ∧ 0 ≤ k₁ ∧ k₁ ≤ k + 1 ∧ ρ'.lookup (S "pen") = some (.cell a) ∧ ρ'.lookup (S "many") = some (.int many) ∧ σ'.lookup a = some (.arr [.int n₁, .int k₁]) ∧ ∀ Z, put σ' a Z = put σ a Z) ?_ ?_
  · refine wt_cmp <| we_sub <| we_name rfl <| we_int <| sub_cell (j := 0) hl rfl rfl (by decide) <| we_int <| eq_ints ⟨_, rfl, ?_⟩
    by_cases h0 : n = 0
    · rw [beq_iff_eq.mpr h0]
      refine wss_cons <| wx_assign_sub <| we_bin <| we_sub <| we_name rfl <| we_int <| sub_cell (j := 1) hl rfl rfl (by decide) <| we_int <| add_ints <| wb_sub <| we_name rfl <| we_int <| set_cell (j := 1) hl rfl (by exact Nat.le_of_ble_eq_true rfl) (by decide) ?_
      have hl₂ := lookup_put (y := .arr [.int n, .int (k + 1)]) hl
      refine wss_cons <| wx_assign_sub <| we_bin <| we_int <| we_bin <| we_int <| we_sub <| we_name rfl <| we_int <| sub_cell (j := 1) hl₂ rfl rfl (by decide) <| add_ints <| pow_ints (by lia) ?_ <| wb_sub <| we_name rfl <| we_int <| set_cell (j := 0) hl₂ rfl (by exact Nat.le_of_ble_eq_true rfl) (by decide) ?_
      · have : Builtin.Int.intBits 7907 = 13 := by decide +kernel
        rw [this]
        show (13 : Int) * (9 + (k + 1)) ≤ 2 ^ 27
        have e : (2 : Int) ^ 27 = 134217728 := by decide
        rw [e]
        lia
      · refine wss_nil ⟨7907 ^ (9 + (k + 1)).toNat, k + 1, Int.pow_nonneg (by decide), by lia, by lia, rfl, rfl, lookup_put hl₂, fun Z => ?_⟩
        show put (put (put σ a _) a _) a Z = _
        rw [put_put, put_put]
    · rw [beq_eq_false_iff_ne.mpr h0]
      exact wss_nil ⟨n, k, hn, hk, by lia, rfl, rfl, hl, fun Z => rfl⟩
  · rintro ρ' σ' ⟨n₁, k₁, h1, h2, h3, h4, h5, h6, h7⟩
    refine wss_cons <| wx_assign_tup <| we_callB (gb_divmod _) bb_divmod <| wl_cons <| we_sub <| we_name h4 <| we_int <| sub_cell (j := 0) h6 rfl rfl (by decide) <| wl_cons <| we_name h5 <| wl_nil <| divmod_ints (by lia) (PyProof.noPylong_small (by lia)) <| wb_tup ?_
    refine wb_sub <| we_name h4 <| we_int <| set_cell (j := 0) h6 rfl (by exact Nat.le_of_ble_eq_true rfl) (by decide) ?_
    refine wb_name ?_
    refine wss_cons <| wx_return <| we_name rfl ?_
    have := h (n₁.fdiv many) k₁ (n₁.fmod many) (Int.fdiv_nonneg h1 (by lia)) h2 h3 (Int.fmod_nonneg_of_pos _ hm) (Int.fmod_lt_of_pos _ hm)
    rw [← h7] at this
    exact this

theorem gl_TOP (P : Params) : nsIn (hd.heap_1 P) mainGlobals (Str.ofString "TOP") = some (some (.int 127 252)) := by k_is
theorem c_made {g : G} {σ : Store} {Q : V → Store → Prop} (b : Bool) (h : Q (csV b) σ) : Wc g 4 (.ref 130) σ [.list [.tup [.int (ch b), .int (ch b)]]] Q := by
  refine' wc_def [S "pairs"] ?ho ?hcd ?hb ?hl ?h ?c1 ?c2 ?c3 ?c4
  walk_at "DEF"
  intro L
  refine wss_cons <| wx_assign <| we_list_cell <| wl_nil ⟨by exact Nat.le_of_ble_eq_true rfl, fun a ha => ?_⟩
  refine wss_forT (fun i ρ' σ' => ρ'.lookup (S "kept") = some (.cell a) ∧ σ' = (a, .list (if i = 0 then [] else [.tup [.int (ch b), .int (ch b)]])) :: σ) ?_
  refine we_name rfl ⟨_, itr_list _ _, ⟨rfl, rfl⟩, ?_, ?_⟩
  · rintro i Y ρ' σ' hY ⟨h1, rfl⟩
    match i, hY with
    | 0, hY =>
      cases hY
      refine wb_tup ?_
      refine wb_name (wb_name ?_)
      refine wss_cons <| wx_assign <| we_callB (gb_max _) bb_max <| wl_cons <| we_name rfl <| wl_cons <| we_int <| wl_nil <| max2_ints ?_
      refine wss_cons <| wx_assign <| we_callB (gb_min _) bb_min <| wl_cons <| we_name rfl <| wl_cons <| we_globI (gl_TOP _) <| wl_nil <| min2_ints ?_
      have e1 : (if (0 : Int) > (ch b : Int) then (0 : Int) else (ch b : Int)) = (ch b : Int) := by cases b <;> rfl
      have e2 : (if (127 : Int) < (ch b : Int) then (127 : Int) else (ch b : Int)) = (ch b : Int) := by cases b <;> rfl
      rw [e1, e2]
      refine wss_cons <| wx_if <| wt_cmp <| we_name rfl <| we_name rfl <| le_ints ⟨_, rfl, ?_⟩
      rw [decide_eq_true (Int.le_refl _)]
      refine wss_cons <| wx_append (Xs := []) (lookup_skip (by decide) <| lookup_skip (by decide) <| lookup_skip (by decide) <| lookup_skip (by decide) h1) (by decide) <| we_tuple <| wl_cons <| we_name rfl <| wl_cons <| we_name rfl <| wl_nil ⟨by exact Nat.le_of_ble_eq_true rfl, lookup_top, ?_⟩
      rw [if_pos rfl, put_top, put_off ha]
      exact wss_nil <| wss_nil ⟨lookup_skip (by decide) <| lookup_skip (by decide) <| lookup_skip (by decide) <| lookup_skip (by decide) h1, rfl⟩
    | i + 1, hY => cases hY
  · rintro ρ' σ' ⟨h1, e⟩
    have e' : σ' = (a, .list [.tup [.int (ch b), .int (ch b)]]) :: σ := e
    subst e'
    refine wss_cons <| wx_assign <| we_list_cell <| wl_nil ⟨by exact Nat.le_of_ble_eq_true rfl, fun a₂ ha₂ => ?_⟩
    have hne : a ≠ a₂ := fun e => ha₂ (by rw [e]; simp)
    refine wss_forT (fun i ρ' σ' => ρ'.lookup (S "kept") = some (.cell a) ∧ ρ'.lookup (S "spans") = some (.cell a₂) ∧ σ' = (a₂, .list (if i = 0 then [] else [.tup [.int (ch b), .int (ch b)]])) :: (a, .list [.tup [.int (ch b), .int (ch b)]]) :: σ) ?_
    refine we_callB (gb_sorted _) bb_sorted <| wl_cons <| we_name (lookup_skip (by decide) h1) <| wl_nil <| sorted_cell1 (X := .tup [.int (ch b), .int (ch b)]) ?_ ⟨_, itr_list _ _, ⟨lookup_skip (by decide) h1, rfl, rfl⟩, ?_, ?_⟩
    · rw [List.lookup_cons, beq_eq_false_iff_ne.mpr hne]
      exact lookup_top
    · rintro i Y ρ' σ' hY ⟨h1, h2, rfl⟩
      match i, hY with
      | 0, hY =>
        cases hY
        refine wb_tup ?_
        refine wb_name (wb_name ?_)
        have h2' := lookup_skip (x := S "high") (X := V.int (ch b)) (y := S "spans") (by decide) (lookup_skip (x := S "low") (X := V.int (ch b)) (y := S "spans") (by decide) h2)
        refine wss_cons <| wx_if <| wt_boolop <| wall_and <| wt_cell rfl <| we_name h2' ⟨a₂, [], rfl, lookup_top, by decide, ?_⟩
        refine wss_cons <| wx_append (Xs := []) h2' (by decide) <| we_tuple <| wl_cons <| we_name rfl <| wl_cons <| we_name rfl <| wl_nil ⟨by exact Nat.le_of_ble_eq_true rfl, lookup_top, ?_⟩
        rw [if_pos rfl, put_top, put_off ha₂]
        exact wss_nil <| wss_nil ⟨lookup_skip (by decide) <| lookup_skip (by decide) h1, h2', rfl⟩
      | i + 1, hY => cases hY
    · rintro ρ' σ' ⟨h1, h2, e⟩
      have e' : σ' = (a₂, .list [.tup [.int (ch b), .int (ch b)]]) :: (a, .list [.tup [.int (ch b), .int (ch b)]]) :: σ := e
      subst e'
      refine wss_freeze h2 <| wss_freeze (lookup_skip (by decide) h1) ?_
      refine wss_cons <| wx_return <| we_callK (gl_CharSet _) (kp_227 _) <| wl_cons <| we_callT (gb_tuple _) bt_tuple <| we_name rfl <| tuple_list' (by exact Nat.le_of_ble_eq_true rfl) <| wl_nil <| Wc.wp (new_CharSet h) (by exact Nat.le_of_ble_eq_true rfl)
theorem c_of {g : G} {σ : Store} {Q : V → Store → Prop} (b : Bool) (h : Q (csV b) σ) : Wc g 5 (.ref 110) σ [.str ⟨#[ch b]⟩] Q := by
  refine' wc_def [S "text"] ?ho ?hcd ?hb ?hl ?h ?c1 ?c2 ?c3 ?c4
  walk_at "DEF"
  intro L
  refine wss_cons <| wx_return <| we_methC (C := 227) (f := 130) (mc := .type "type") (pl := _) (gl_CharSet _) (by k_is) (by k_is) (by k_is) (.inr ⟨132, [.bool false], by k_is, by k_is⟩) (by k_is) ?_
  refine wl_cons <| we_comp [] [] lies_none <| we_name rfl <| walk_map [.str ⟨#[ch b]⟩] (fun i acc => acc = if i = 0 then [] else [.tup [.int (ch b), .int (ch b)]]) (itr_str _ (by cases b <;> decide +kernel)) (by exact Nat.le_of_ble_eq_true rfl) rfl ?_ ?_
  · rintro C D i Y acc ρ' hY rfl _
    match i, hY with
    | 0, hY =>
      cases hY
      refine we_tuple <| wl_cons <| we_callB (gb_ord _) bb_ord <| wl_cons <| we_name rfl <| wl_nil <| ord_str' <| wl_cons <| we_callB (gb_ord _) bb_ord <| wl_cons <| we_name rfl <| wl_nil <| ord_str' <| wl_nil ⟨by exact Nat.le_of_ble_eq_true rfl, rfl, rfl⟩
    | i + 1, hY => cases hY
  · rintro acc rfl
    exact wl_nil <| Wc.wp (c_made b h) (by exact Nat.le_of_ble_eq_true rfl)
/-- the pen: its cell, and how often it may be drawn from yet -/
def Pen (a : Addr) (K : Nat) (σ : Store) : Prop := ∃ n k : Int, σ.lookup a = some (.arr [.int n, .int k]) ∧ 0 ≤ n ∧ 0 ≤ k ∧ k + K ≤ 10000
/-- .. the rest of the store as it was -/
def Turned (a : Addr) (σ σ' : Store) : Prop := ∀ Z, put σ' a Z = put σ a Z
theorem Pen.draw {g : G} {σ : Store} {d K : Nat} {a : Addr} {many : Int} {Q : V → Store → Prop} (h : Pen a (K + 1) σ) (hm : 0 < many) (hm' : many < 1000) (k : ∀ σ' t, Pen a K σ' → Turned a σ σ' → 0 ≤ t → t < many → Q (.int t) σ') : Wc g (d + 1) (.ref 564) σ [.cell a, .int many] Q := by
  obtain ⟨n, j, hl, h1, h2, h3⟩ := h
  refine c_draw hl h1 h2 (by lia) hm hm' fun n' k' t a1 a2 a3 a4 a5 => k _ t ⟨n', k', lookup_put hl, a1, a2, by lia⟩ (fun Z => put_put) a4 a5
theorem c_letter {g : G} {σ : Store} {d K : Nat} {a : Addr} {Q : V → Store → Prop} (h : Pen a (K + 1) σ) (k : ∀ σ' b, Pen a K σ' → Turned a σ σ' → Q (.tup [(Nd.chars b).v, .list [.str ⟨#[ch b]⟩]]) σ') : Wc g (d + 6) (.ref 571) σ [.cell a] Q := by
  refine' wc_def (d := d + 5) [S "pen"] ?ho ?hcd ?hb ?hl ?h ?c1 ?c2 ?c3 ?c4
  walk_at "DEF"
  intro L
  refine wss_cons <| wx_assign <| we_sub <| we_str <| we_callK (gl_law_draw _) (kp_564 _) <| wl_cons <| we_name rfl <| wl_cons <| we_int <| wl_nil <| Wc.wp (h.draw (d := 0) (by decide) (by decide) fun σ' t hp ht h0 h1 => ?_) (by show 0 + 1 ≤ d + 5; lia)
  obtain ⟨b, rfl⟩ : ∃ b : Bool, t = if b then 1 else 0 := by
    by_cases e : t = 0
    · exact ⟨false, e⟩
    · exact ⟨true, by rw [if_pos rfl]; lia⟩
  refine sub_str (ch := ch b) (by cases b <;> rfl) (by cases b <;> decide) ?_
  refine wss_cons <| wx_return <| we_tuple <| wl_cons <| we_callK (gl_Chars _) (kp_307 _) <| wl_cons <| we_methC (C := 227) (f := 110) (mc := .type "type") (pl := _) (gl_CharSet _) (by k_is) (by k_is) (by k_is) (.inr ⟨112, [.bool false], by k_is, by k_is⟩) (by k_is) ?_
  refine wl_cons <| we_name rfl <| wl_nil <| Wc.wp (c_of b ?_) (by show 5 ≤ d + 5; lia)
  refine wl_nil <| Wc.wp (new_Chars ?_) (by show 3 ≤ d + 5; lia)
  refine wl_cons <| we_list <| wl_cons <| we_name rfl <| wl_nil ⟨by exact Nat.le_of_ble_eq_true rfl, wl_nil ⟨by exact Nat.le_of_ble_eq_true rfl, ?_⟩⟩
  exact k σ' b hp ht
-- Y1
/-! Plain facts on words over two letters: no program in sight. -/
abbrev Wd := List Bool
def addB (ks : List Wd) (k : Wd) : List Wd := if k ∈ ks then ks else ks ++ [k]
def dedupB (ws : List Wd) : List Wd := ws.foldl addB []
def prods (found row : List Wd) : List Wd := (found.flatMap fun w => row.map (w ++ ·)).filter fun x => decide (x.length < 3)
def stepB (found row : List Wd) : List Wd := dedupB (prods found row)
def wordsB (rows : List (List Wd)) : List Wd := rows.foldl stepB [[]]

theorem addB_mem {ks : List Wd} {k x : Wd} : x ∈ addB ks k ↔ x ∈ ks ∨ x = k := by
  unfold addB
  split
  · rename_i h
    exact ⟨.inl, fun e => e.elim id fun e => e ▸ h⟩
  · simp
theorem addB_nodup {ks : List Wd} {k : Wd} (h : ks.Nodup) : (addB ks k).Nodup := by
  unfold addB
  split
  · exact h
  · rename_i hn
    refine List.nodup_append.mpr ⟨h, by simp, fun a ha b hb e => ?_⟩
    rw [List.mem_singleton.mp hb] at e
    exact hn (e ▸ ha)
theorem foldB_mem {x : Wd} : ∀ (ws ks : List Wd), x ∈ ws.foldl addB ks ↔ x ∈ ks ∨ x ∈ ws
  | [], ks => by simp
  | w :: ws, ks => by rw [List.foldl_cons, foldB_mem ws, addB_mem, List.mem_cons, or_assoc]
theorem foldB_nodup : ∀ (ws ks : List Wd), ks.Nodup → (ws.foldl addB ks).Nodup
  | [], _, h => h
  | _ :: ws, _, h => foldB_nodup ws _ (addB_nodup h)
theorem dedupB_mem {x : Wd} {ws : List Wd} : x ∈ dedupB ws ↔ x ∈ ws := by rw [dedupB, foldB_mem]; simp
theorem dedupB_nodup (ws : List Wd) : (dedupB ws).Nodup := foldB_nodup ws [] (by simp)
theorem prods_mem {found row : List Wd} {x : Wd} : x ∈ prods found row ↔ x.length < 3 ∧ ∃ w ∈ found, ∃ o ∈ row, x = w ++ o := by
  unfold prods
  rw [List.mem_filter, List.mem_flatMap]
  constructor
  · rintro ⟨⟨w, hw, hx⟩, hl⟩
    obtain ⟨o, ho, rfl⟩ := List.mem_map.mp hx
    exact ⟨of_decide_eq_true hl, w, hw, o, ho, rfl⟩
  · rintro ⟨hl, w, hw, o, ho, rfl⟩
    exact ⟨⟨w, hw, List.mem_map.mpr ⟨o, ho, rfl⟩⟩, decide_eq_true hl⟩
theorem stepB_mem {found row : List Wd} {x : Wd} : x ∈ stepB found row ↔ x.length < 3 ∧ ∃ w ∈ found, ∃ o ∈ row, x = w ++ o := by rw [stepB, dedupB_mem, prods_mem]

def allW : List Wd := [[], [false], [true], [false, false], [false, true], [true, false], [true, true]]
theorem mem_allW : ∀ {x : Wd}, x.length < 3 → x ∈ allW
  | [], _ => by simp [allW]
  | [a], _ => by cases a <;> simp [allW]
  | [a, b], _ => by cases a <;> cases b <;> simp [allW]
  | _ :: _ :: _ :: _, h => by simp at h; lia
theorem nodup_le {α : Type} [DecidableEq α] : ∀ {l m : List α}, l.Nodup → (∀ x ∈ l, x ∈ m) → l.length ≤ m.length
  | [], m, _, _ => Nat.zero_le _
  | a :: l, m, h, hs => by
    have ha := hs a (.head _)
    have h' := List.nodup_cons.mp h
    have := nodup_le (m := m.erase a) h'.2 fun x hx => by
      have hne : x ≠ a := fun e => h'.1 (e ▸ hx)
      exact (List.mem_erase_of_ne hne).mpr (hs x (.tail _ hx))
    rw [List.length_erase_of_mem ha] at this
    have hp : 0 < m.length := List.length_pos_of_mem ha
    rw [List.length_cons]; lia
structure GoodWs (ws : List Wd) : Prop where
  nodup : ws.Nodup
  short : ∀ x ∈ ws, x.length < 3
theorem GoodWs.le {ws : List Wd} (h : GoodWs ws) : ws.length ≤ 7 := nodup_le (m := allW) h.nodup fun x hx => mem_allW (h.short x hx)
theorem stepB_good (found row : List Wd) : GoodWs (stepB found row) := ⟨dedupB_nodup _, fun _ h => (stepB_mem.mp h).1⟩
theorem wordsB_good' : ∀ (rows : List (List Wd)) (f : List Wd), GoodWs f → GoodWs (rows.foldl stepB f)
  | [], _, h => h
  | r :: rows, f, _ => wordsB_good' rows _ (stepB_good f r)
theorem wordsB_good (rows : List (List Wd)) : GoodWs (wordsB rows) := wordsB_good' rows _ ⟨by simp, by simp⟩

/-- a word that a row of word lists makes -/
def Prod (rows : List (List Wd)) (x : Wd) : Prop := match rows with
  | [] => x = []
  | r :: rows => ∃ o ∈ r, ∃ y, Prod rows y ∧ x = o ++ y
theorem fold_mem : ∀ (rows : List (List Wd)) (f : List Wd) (x : Wd), (∀ w ∈ f, w.length < 3) → (x ∈ rows.foldl stepB f ↔ x.length < 3 ∧ ∃ w ∈ f, ∃ y, Prod rows y ∧ x = w ++ y)
  | [], f, x, hf => by
    simp only [List.foldl_nil, Prod]
    constructor
    · exact fun h => ⟨hf x h, x, h, [], rfl, by simp⟩
    · rintro ⟨_, w, hw, y, rfl, rfl⟩
      simpa using hw
  | r :: rows, f, x, hf => by
    rw [List.foldl_cons, fold_mem rows _ x fun w hw => (stepB_mem.mp hw).1]
    constructor
    · rintro ⟨hl, w, hw, y, hy, rfl⟩
      obtain ⟨_, u, hu, o, ho, rfl⟩ := stepB_mem.mp hw
      exact ⟨hl, u, hu, o ++ y, ⟨o, ho, y, hy, rfl⟩, by simp⟩
    · rintro ⟨hl, w, hw, z, ⟨o, ho, y, hy, rfl⟩, rfl⟩
      refine ⟨hl, w ++ o, stepB_mem.mpr ⟨?_, w, hw, o, ho, rfl⟩, y, hy, by simp⟩
      simp only [List.length_append] at hl ⊢; lia
theorem wordsB_mem {rows : List (List Wd)} {x : Wd} : x ∈ wordsB rows ↔ x.length < 3 ∧ Prod rows x := by
  rw [wordsB, fold_mem rows _ x (by simp)]
  simp
-- X7
/-! ## words as texts -/
def wd (l : Wd) : Str := ⟨(l.map ch).toArray⟩
def wdV (l : Wd) : V := .str (wd l)
theorem ch_inj {a b : Bool} (h : ch a = ch b) : a = b := by cases a <;> cases b <;> first | rfl | (exact absurd h (by decide))
theorem wd_inj {a b : Wd} (h : wd a = wd b) : a = b := by
  have h1 : a.map ch = b.map ch := by
    have := congrArg Str.cps h
    simpa [wd] using this
  induction a generalizing b with
  | nil => cases b with
    | nil => rfl
    | cons y b => simp at h1
  | cons x a ih => cases b with
    | nil => simp at h1
    | cons y b =>
      simp only [List.map_cons, List.cons.injEq] at h1
      rw [ch_inj h1.1, ih (by simp [wd, h1.2]) h1.2]
theorem wd_app (a b : Wd) : wd a ++ wd b = wd (a ++ b) := by
  show Str.mk _ = Str.mk _
  simp [wd]
theorem wd_len (a : Wd) : (wd a).length = a.length := by simp [wd, Str.length]
theorem addK_wd (ks : List Wd) (k : Wd) : addK (ks.map wd) (wd k) = (addB ks k).map wd := by
  unfold addK addB
  by_cases h : k ∈ ks
  · rw [if_pos h, if_pos (List.any_eq_true.mpr ⟨wd k, List.mem_map_of_mem h, by simp⟩)]
  · rw [if_neg h, if_neg (fun e => ?_)]
    · simp
    · obtain ⟨y, hy, e⟩ := List.any_eq_true.mp e
      obtain ⟨z, hz, rfl⟩ := List.mem_map.mp hy
      exact h (wd_inj (of_decide_eq_true e) ▸ hz)
theorem dedup_wd (ws : List Wd) : dedup (ws.map wd) = (dedupB ws).map wd := by
  have key : ∀ (ws ks : List Wd), (ws.map wd).foldl addK (ks.map wd) = (ws.foldl addB ks).map wd := by
    intro ws
    induction ws with
    | nil => intro ks; rfl
    | cons w ws ih => intro ks; rw [List.map_cons, List.foldl_cons, List.foldl_cons, addK_wd, ih]
  exact key ws []
def rowV (row : List Wd) : V := .list (row.map wdV)
theorem prods_cons (f : List Wd) (w : Wd) (row : List Wd) : prods (f ++ [w]) row = prods f row ++ ((row.map (w ++ ·)).filter fun x => decide (x.length < 3)) := by
  simp [prods, List.flatMap_append, List.filter_append]
theorem prods_le (f row : List Wd) : (prods f row).length ≤ f.length * row.length := by
  unfold prods
  refine Nat.le_trans (List.length_filter_le _ _) ?_
  induction f with
  | nil => simp
  | cons w f ih =>
    rw [List.flatMap_cons, List.length_append, List.length_map, List.length_cons, Nat.add_mul, Nat.one_mul, Nat.add_comm]
    exact Nat.add_le_add_right ih _

theorem c_words {g : G} {σ : Store} {d : Nat} {Q : V → Store → Prop} (rows : List (List Wd)) (hn : rows.length ≤ 1000) (hr : ∀ r ∈ rows, r.length ≤ 4000 ∧ ∀ x ∈ r, x.length < 3) (h : Q (rowV (wordsB rows)) σ) :
    Wc g (d + 1) (.ref 576) σ [.list (rows.map rowV)] Q := by
  refine' wc_defC (S "rows") ?ho ?hcd ?hb ?hl ?hnd ?hcn ?h ?c1 ?c2 ?c3
  case ho => k_is
  case hcd => k_is
  case hb => exact fun s v => BindsTo.of_eq (by rfl)
  case hl => decide
  case hnd => decide
  case hcn => exact fun L => ⟨by simp [cellsFrom], by simp [cellsFrom]⟩
  case c1 => rfl
  case c2 => rfl
  case c3 => rfl
  intro L
  refine wss_cons <| wx_assign <| we_list <| wl_cons <| we_str <| wl_nil ⟨by exact Nat.le_of_ble_eq_true rfl, ?_⟩
  refine wss_forT (fun i ρ' σ' => ρ'.lookup (S "found") = some (rowV (wordsB (rows.take i))) ∧ σ' = σ) ?_
  refine we_name rfl ⟨_, itr_list _ _, ⟨rfl, rfl⟩, ?_, ?_⟩
  · rintro i Y ρ' σ' hY ⟨h1, rfl⟩
    obtain ⟨row, hrow, rfl⟩ : ∃ row, rows[i]? = some row ∧ Y = rowV row := by
      rw [List.getElem?_map] at hY
      cases h : rows[i]? with
      | none => rw [h] at hY; cases hY
      | some r => rw [h] at hY; exact ⟨r, rfl, (Option.some.inj hY).symm⟩
    have hrow' := hr row (List.mem_of_getElem? hrow)
    have hgood := wordsB_good (rows.take i)
    refine wb_name ?_ rfl (.inr ⟨rfl, rfl, by simp [cellsFrom, envOfC]⟩)
    refine wss_cons <| wx_assign <| we_list_dict (gb_list _) bt_list (gb_dict _) bt_dict ?_
    refine we_comp [(S "row", L + 1)] [(S "row", rowV row)] ⟨rfl, by decide, rfl, by decide, ?_⟩ ?_
    · intro x X e
      by_cases hx : x = S "row"
      · subst hx
        cases e
        exact ⟨rfl, rfl, rfl, rfl⟩
      · rw [List.lookup_cons, beq_eq_false_iff_ne.mpr hx] at e
        cases e
    refine we_name (lookup_skip (by decide) h1) ⟨_, itr_list _ _, fun C D hD => ⟨fun j ρ₂ σ₂ => ρ₂.lookup (S "row") = some (rowV row) ∧ σ₂ = (D, .list (((prods ((wordsB (rows.take i)).take j) row).map wd).map pairT)) :: σ', _, fun it => compTurn_two _ _ _ _ _ _ _ _ _ it _ _, ⟨rfl, rfl⟩, ?_, ?_⟩⟩
    · rintro j Z ρ₂ σ₂ hZ ⟨h2, rfl⟩
      obtain ⟨w, hw, rfl⟩ : ∃ w, (wordsB (rows.take i))[j]? = some w ∧ Z = wdV w := by
        rw [List.getElem?_map] at hZ
        cases h : (wordsB (rows.take i))[j]? with
        | none => rw [h] at hZ; cases hZ
        | some r => rw [h] at hZ; exact ⟨r, rfl, (Option.some.inj hZ).symm⟩
      have hwl := hgood.short w (List.mem_of_getElem? hw)
      refine wu_name rfl <| wts_nil ?_
      refine wu_nest (by intro _; rfl) <| we_name (lookup_skip (by decide) h2) ?_
      have e0 : prods ((wordsB (rows.take i)).take (j + 1)) row = prods ((wordsB (rows.take i)).take j) row ++ ((row.map (w ++ ·)).filter fun x => decide (x.length < 3)) := by
        rw [List.take_add_one, hw]
        exact prods_cons _ _ _
      refine ⟨_, fun k ρ₃ σ₃ => ρ₃.lookup (S "row") = some (rowV row) ∧ ρ₃.lookup (S "word") = some (wdV w) ∧ σ₃ = (D, .list (((prods ((wordsB (rows.take i)).take j) row ++ (((row.take k).map (w ++ ·)).filter fun x => decide (x.length < 3))).map wd).map pairT)) :: σ', _, itr_list _ _, fun it => compTurn_inner _ _ _ _ _ _ _ it _ _, ⟨lookup_skip (by decide) h2, rfl, by simp⟩, ?_, ?_⟩
      · rintro k Z' ρ₃ σ₃ hZ' ⟨h3, h4, rfl⟩
        obtain ⟨o, ho, rfl⟩ : ∃ o, row[k]? = some o ∧ Z' = wdV o := by
          rw [List.getElem?_map] at hZ'
          cases h : row[k]? with
          | none => rw [h] at hZ'; cases hZ'
          | some r => rw [h] at hZ'; exact ⟨r, rfl, (Option.some.inj hZ').symm⟩
        have hol := hrow'.2 o (List.mem_of_getElem? ho)
        have ek : (((row.take (k + 1)).map (w ++ ·)).filter fun x => decide (x.length < 3)) = (((row.take k).map (w ++ ·)).filter fun x => decide (x.length < 3)) ++ (if (w ++ o).length < 3 then [w ++ o] else []) := by
          rw [List.take_add_one, ho]
          simp only [Option.toList_some, List.map_append, List.map_cons, List.map_nil, List.filter_append]
          congr 1
          by_cases hc : (w ++ o).length < 3
          · rw [if_pos hc]; simp only [List.filter_cons, decide_eq_true hc, if_true, List.filter_nil]
          · rw [if_neg hc]; simp only [List.filter_cons, decide_eq_false hc, Bool.false_eq_true, if_false, List.filter_nil]
        refine wu_name rfl <| wts_one <| wt_cmp <| we_callB (gb_len _) bb_len <| wl_cons <| we_bin <| we_name (lookup_skip (by decide) h4) <| we_name rfl <| add_strs ?_ <| wl_nil <| len_str' ?_ <| we_int <| lt_ints ⟨_, rfl, ?_⟩
        · rw [wd_len, wd_len, sizeLine_eq]; lia
        · rw [wd_app, wd_len, List.length_append]; lia
        · rw [wd_app, wd_len]
          by_cases hc : (w ++ o).length < 3
          · have : decide (((w ++ o).length : Int) < 3) = true := decide_eq_true (by lia)
            rw [this]
            refine wu_emit (acc := ((prods ((wordsB (rows.take i)).take j) row ++ (((row.take k).map (w ++ ·)).filter fun x => decide (x.length < 3))).map wd).map pairT) <| we_tuple <| wl_cons <| we_bin <| we_name (lookup_skip (by decide) h4) <| we_name rfl <| add_strs ?_ <| wl_cons <| we_bool <| wl_nil ⟨by exact Nat.le_of_ble_eq_true rfl, lookup_top, ?_, lookup_skip (by decide) h3, lookup_skip (by decide) h4, ?_⟩
            · rw [wd_len, wd_len, sizeLine_eq]; lia
            · rw [List.length_map, List.length_map, List.length_append]
              have e1 := prods_le ((wordsB (rows.take i)).take j) row
              have e2 : ((wordsB (rows.take i)).take j).length ≤ 7 := Nat.le_trans (List.length_take_le' _ _) hgood.le
              have e3 := Nat.le_trans (List.length_filter_le (fun x => decide (x.length < 3)) ((row.take k).map (w ++ ·))) (Nat.le_of_eq (List.length_map _))
              have e4 := List.length_take_le' k row
              have e5 : ((wordsB (rows.take i)).take j).length * row.length ≤ 7 * 4000 := Nat.mul_le_mul e2 hrow'.1
              lia
            · rw [put_head hD, ek, if_pos hc, wd_app]
              simp [pairT]
          · have : decide (((w ++ o).length : Int) < 3) = false := decide_eq_false (by lia)
            rw [this]
            exact ⟨lookup_skip (by decide) h3, lookup_skip (by decide) h4, by rw [ek, if_neg hc]; simp⟩
      · rintro ρ₃ σ₃ ⟨h3, h4, rfl⟩
        exact ⟨h3, by rw [e0, List.length_map, List.take_length]⟩
    · rintro ρ₂ σ₂ ⟨h2, rfl⟩
      rw [List.length_map, List.take_length]
      refine ⟨_, σ', rfl, _, rfl, ?_, ?_⟩
      · rw [List.length_map]
        have e1 := prods_le (wordsB (rows.take i)) row
        have e5 : (wordsB (rows.take i)).length * row.length ≤ 7 * 4000 := Nat.mul_le_mul hgood.le hrow'.1
        lia
      · refine wss_nil ⟨?_, rfl⟩
        have e : wordsB (rows.take (i + 1)) = stepB (wordsB (rows.take i)) row := by
          rw [List.take_add_one, hrow]
          simp [wordsB, List.foldl_append]
        rw [dedup_wd, e]
        show some (V.list _) = some (V.list _)
        rw [List.map_map]
        rfl
  · rintro ρ' σ' ⟨h1, rfl⟩
    refine wss_cons <| wx_return <| we_name h1 ?_
    rw [List.length_map, List.take_length]
    exact h
-- X8
/-- a part that is built, and its words -/
inductive PartOf : Nd → List Wd → Prop
  | w0 (b : Bool) : PartOf (.opt (.chars b)) [[], [b]]
  | w1 (b : Bool) : PartOf (.star (.chars b)) (wordsB [[[], [b]], [[], [b]]])
  | w2 (b : Bool) : PartOf (.rep false (.chars b)) (wordsB [[[], [b]], [[], [b]]])
  | w3 (b : Bool) : PartOf (.alt (.chars b) .empty) [[], [b]]
  | w4 (b : Bool) : PartOf (.alt .empty (.chars b)) [[], [b]]
  | w5 (b e : Bool) : PartOf (.opt (.cat (.opt (.chars b)) (.star (.chars e)))) (wordsB [[[], [b]], [[], [e]], [[], [e]]])
section
variable {g : G} {c : Cfg} {ρ : Env₁} {σ : Store}
theorem we_eps {x : Str} {p1 p2 p3 p4 : Pos} {n : Nat} {ws : List Wd} {Q : V → Store → Prop} (hx : ρ.lookup x = some (rowV ws)) (hz : ws.length ≤ 1000) (h : Q (rowV ([] :: ws)) σ) (hd : (x == ("__debug__" : Str)) = false := by decide) :
    We g c ρ σ (.BinOp (.List [.Constant (.str (S "")) n p1] p2) .Add (.Name x p3) p4) Q := by
  refine we_bin <| we_list <| wl_cons <| we_str <| wl_nil ⟨by exact Nat.le_of_ble_eq_true rfl, we_name hx (add_lists' ?_ h) hd⟩
  simp only [List.length_map, List.length_cons, List.length_nil]; lia
end
theorem two_ok (b : Bool) : ∀ r ∈ [[[], [b]], [[], [b]]], r.length ≤ 4000 ∧ ∀ x ∈ r, x.length < 3 := by cases b <;> decide
theorem three_ok (b e : Bool) : ∀ r ∈ [[[], [b]], [[], [e]], [[], [e]]], r.length ≤ 4000 ∧ ∀ x ∈ r, x.length < 3 := by cases b <;> cases e <;> decide
theorem c_part {g : G} {σ : Store} {d K : Nat} {a : Addr} {Q : V → Store → Prop} (h : Pen a (K + 3) σ) (k : ∀ σ' n ws, Pen a K σ' → Turned a σ σ' → PartOf n ws → Q (.tup [n.v, rowV ws]) σ') : Wc g (d + 8) (.ref 583) σ [.cell a] Q := by
  refine' wc_def (d := d + 7) [S "pen"] ?ho ?hcd ?hb ?hl ?h ?c1 ?c2 ?c3 ?c4
  walk_at "DEF"
  intro L
  refine wss_cons <| wx_assign_swap (names := [S "way", S "pair"]) rfl <| we_tuple <| wl_cons <| we_callK (gl_law_draw _) (kp_564 _) <| wl_cons <| we_name rfl <| wl_cons <| we_int <| wl_nil <| Wc.wp (h.draw (d := 0) (by decide) (by decide) fun σ₁ t hp₁ ht₁ t0 t1 => ?_) (by show 0 + 1 ≤ d + 7; lia)
  refine wl_cons <| we_callK (gl_law_letter _) (kp_571 _) <| wl_cons <| we_name rfl <| wl_nil <| Wc.wp (c_letter (d := 0) hp₁ fun σ₂ b hp₂ ht₂ => ?_) (by show 0 + 6 ≤ d + 7; lia)
  refine wl_nil ⟨by exact Nat.le_of_ble_eq_true rfl, _, rfl, rfl, ?_⟩
  refine wb_bind (wb_bind ?_)
  have T₂ : Turned a σ σ₂ := fun Z => (ht₂ Z).trans (ht₁ Z)
  have hp₂' : Pen a K σ₂ := let ⟨n, j, a1, a2, a3, a4⟩ := hp₂; ⟨n, j, a1, a2, a3, by lia⟩
  refine wss_cons <| wx_assign_tup <| we_name rfl <| wb_tup <| wb_name <| wb_name ?_
  have et : t = 0 ∨ t = 1 ∨ t = 2 ∨ t = 3 ∨ t = 4 ∨ t = 5 := by lia
  rcases et with rfl | rfl | rfl | rfl | rfl | rfl
  · refine wss_cons <| wx_if <| wt_cmp <| we_name rfl <| we_int <| eq_ints ⟨_, rfl, ?_⟩
    refine wss_cons <| wx_return <| we_tuple <| wl_cons <| we_callK (gl_Opt _) (kp_433 _) <| wl_cons <| we_name rfl <| wl_nil <| Wc.wp (new_Opt ?_) (by show 3 ≤ d + 7; lia)
    refine wl_cons <| we_eps (ws := [[b]]) rfl (by exact Nat.le_of_ble_eq_true rfl) <| wl_nil ⟨by exact Nat.le_of_ble_eq_true rfl, k σ₂ _ _ hp₂' T₂ (.w0 b)⟩
  · refine wss_cons <| wx_if <| wt_cmp <| we_name rfl <| we_int <| eq_ints ⟨_, rfl, ?_⟩
    refine wss_nil ?_
    refine wss_cons <| wx_if <| wt_cmp <| we_name rfl <| we_int <| eq_ints ⟨_, rfl, ?_⟩
    refine wss_cons <| wx_return <| we_tuple <| wl_cons <| we_callK (gl_Star _) (kp_409 _) <| wl_cons <| we_name rfl <| wl_nil <| Wc.wp (new_Star ?_) (by show 3 ≤ d + 7; lia)
    refine wl_cons <| we_callK (gl_law_words _) (kp_576 _) <| wl_cons <| we_list <| wl_cons <| we_eps (ws := [[b]]) rfl (by exact Nat.le_of_ble_eq_true rfl) <| wl_cons <| we_eps (ws := [[b]]) rfl (by exact Nat.le_of_ble_eq_true rfl) <| wl_nil ⟨by exact Nat.le_of_ble_eq_true rfl, wl_nil <| Wc.wp (c_words (d := 0) [[[], [b]], [[], [b]]] (by exact Nat.le_of_ble_eq_true rfl) (two_ok b) ?_) (by show 0 + 1 ≤ d + 7; lia)⟩
    exact wl_nil ⟨by exact Nat.le_of_ble_eq_true rfl, k σ₂ _ _ hp₂' T₂ (.w1 b)⟩
  · refine wss_cons <| wx_if <| wt_cmp <| we_name rfl <| we_int <| eq_ints ⟨_, rfl, ?_⟩
    refine wss_nil ?_
    refine wss_cons <| wx_if <| wt_cmp <| we_name rfl <| we_int <| eq_ints ⟨_, rfl, ?_⟩
    refine wss_nil ?_
    refine wss_cons <| wx_if <| wt_cmp <| we_name rfl <| we_int <| eq_ints ⟨_, rfl, ?_⟩
    refine wss_cons <| wx_return <| we_tuple <| wl_cons <| we_callK (gl_Repeat _) (kp_459 _) <| wl_cons <| we_name rfl <| wl_cons <| we_int <| wl_cons <| we_int <| wl_nil <| Wc.wp (new_Repeat (z := false) ?_) (by show 5 ≤ d + 7; lia)
    refine wl_cons <| we_callK (gl_law_words _) (kp_576 _) <| wl_cons <| we_list <| wl_cons <| we_eps (ws := [[b]]) rfl (by exact Nat.le_of_ble_eq_true rfl) <| wl_cons <| we_eps (ws := [[b]]) rfl (by exact Nat.le_of_ble_eq_true rfl) <| wl_nil ⟨by exact Nat.le_of_ble_eq_true rfl, wl_nil <| Wc.wp (c_words (d := 0) [[[], [b]], [[], [b]]] (by exact Nat.le_of_ble_eq_true rfl) (two_ok b) ?_) (by show 0 + 1 ≤ d + 7; lia)⟩
    exact wl_nil ⟨by exact Nat.le_of_ble_eq_true rfl, k σ₂ _ _ hp₂' T₂ (.w2 b)⟩
  · refine wss_cons <| wx_if <| wt_cmp <| we_name rfl <| we_int <| eq_ints ⟨_, rfl, ?_⟩
    refine wss_nil ?_
    refine wss_cons <| wx_if <| wt_cmp <| we_name rfl <| we_int <| eq_ints ⟨_, rfl, ?_⟩
    refine wss_nil ?_
    refine wss_cons <| wx_if <| wt_cmp <| we_name rfl <| we_int <| eq_ints ⟨_, rfl, ?_⟩
    refine wss_nil ?_
    refine wss_cons <| wx_if <| wt_cmp <| we_name rfl <| we_int <| eq_ints ⟨_, rfl, ?_⟩
    refine wss_cons <| wx_return <| we_tuple <| wl_cons <| we_callK (gl_Alt _) (kp_364 _) <| wl_cons <| we_name rfl <| wl_cons <| we_callK (gl_Empty _) (kp_269 _) <| wl_nil <| Wc.wp (new_Empty (d := 1) ?_) (by show 1 ≤ d + 7; lia)
    refine wl_nil <| Wc.wp (new_Alt ?_) (by show 3 ≤ d + 7; lia)
    refine wl_cons <| we_eps (ws := [[b]]) rfl (by exact Nat.le_of_ble_eq_true rfl) <| wl_nil ⟨by exact Nat.le_of_ble_eq_true rfl, k σ₂ _ _ hp₂' T₂ (.w3 b)⟩
  · refine wss_cons <| wx_if <| wt_cmp <| we_name rfl <| we_int <| eq_ints ⟨_, rfl, ?_⟩
    refine wss_nil ?_
    refine wss_cons <| wx_if <| wt_cmp <| we_name rfl <| we_int <| eq_ints ⟨_, rfl, ?_⟩
    refine wss_nil ?_
    refine wss_cons <| wx_if <| wt_cmp <| we_name rfl <| we_int <| eq_ints ⟨_, rfl, ?_⟩
    refine wss_nil ?_
    refine wss_cons <| wx_if <| wt_cmp <| we_name rfl <| we_int <| eq_ints ⟨_, rfl, ?_⟩
    refine wss_nil ?_
    refine wss_cons <| wx_if <| wt_cmp <| we_name rfl <| we_int <| eq_ints ⟨_, rfl, ?_⟩
    refine wss_cons <| wx_return <| we_tuple <| wl_cons <| we_callK (gl_Alt _) (kp_364 _) <| wl_cons <| we_callK (gl_Empty _) (kp_269 _) <| wl_nil <| Wc.wp (new_Empty (d := 1) ?_) (by show 1 ≤ d + 7; lia)
    refine wl_cons <| we_name rfl <| wl_nil <| Wc.wp (new_Alt ?_) (by show 3 ≤ d + 7; lia)
    refine wl_cons <| we_eps (ws := [[b]]) rfl (by exact Nat.le_of_ble_eq_true rfl) <| wl_nil ⟨by exact Nat.le_of_ble_eq_true rfl, k σ₂ _ _ hp₂' T₂ (.w4 b)⟩
  · refine wss_cons <| wx_if <| wt_cmp <| we_name rfl <| we_int <| eq_ints ⟨_, rfl, ?_⟩
    refine wss_nil ?_
    refine wss_cons <| wx_if <| wt_cmp <| we_name rfl <| we_int <| eq_ints ⟨_, rfl, ?_⟩
    refine wss_nil ?_
    refine wss_cons <| wx_if <| wt_cmp <| we_name rfl <| we_int <| eq_ints ⟨_, rfl, ?_⟩
    refine wss_nil ?_
    refine wss_cons <| wx_if <| wt_cmp <| we_name rfl <| we_int <| eq_ints ⟨_, rfl, ?_⟩
    refine wss_nil ?_
    refine wss_cons <| wx_if <| wt_cmp <| we_name rfl <| we_int <| eq_ints ⟨_, rfl, ?_⟩
    refine wss_nil ?_
    refine wss_cons <| wx_assign_tup <| we_callK (gl_law_letter _) (kp_571 _) <| wl_cons <| we_name rfl <| wl_nil <| Wc.wp (c_letter (d := 0) hp₂ fun σ₃ e hp₃ ht₃ => ?_) (by show 0 + 6 ≤ d + 7; lia)
    refine wb_tup <| wb_name <| wb_name ?_
    have T₃ : Turned a σ σ₃ := fun Z => (ht₃ Z).trans (T₂ Z)
    refine wss_cons <| wx_return <| we_tuple <| wl_cons <| we_callK (gl_Opt _) (kp_433 _) <| wl_cons <| we_callK (gl_Cat _) (kp_352 _) <| wl_cons <| we_callK (gl_Opt _) (kp_433 _) <| wl_cons <| we_name rfl <| wl_nil <| Wc.wp (new_Opt ?_) (by show 3 ≤ d + 7; lia)
    refine wl_cons <| we_callK (gl_Star _) (kp_409 _) <| wl_cons <| we_name rfl <| wl_nil <| Wc.wp (new_Star ?_) (by show 3 ≤ d + 7; lia)
    refine wl_nil <| Wc.wp (new_Cat ?_) (by show 3 ≤ d + 7; lia)
    refine wl_nil <| Wc.wp (new_Opt ?_) (by show 3 ≤ d + 7; lia)
    refine wl_cons <| we_callK (gl_law_words _) (kp_576 _) <| wl_cons <| we_list <| wl_cons <| we_eps (ws := [[b]]) rfl (by exact Nat.le_of_ble_eq_true rfl) <| wl_cons <| we_eps (ws := [[e]]) rfl (by exact Nat.le_of_ble_eq_true rfl) <| wl_cons <| we_eps (ws := [[e]]) rfl (by exact Nat.le_of_ble_eq_true rfl) <| wl_nil ⟨by exact Nat.le_of_ble_eq_true rfl, wl_nil <| Wc.wp (c_words (d := 0) [[[], [b]], [[], [e]], [[], [e]]] (by exact Nat.le_of_ble_eq_true rfl) (three_ok b e) ?_) (by show 0 + 1 ≤ d + 7; lia)⟩
    exact wl_nil ⟨by exact Nat.le_of_ble_eq_true rfl, k σ₃ _ _ hp₃ T₃ (.w5 b e)⟩
-- X9
theorem c_halv {g : G} {σ : Store} {d : Nat} {Q : V → Store → Prop} (many : Nat) (hm : many ≤ 1000) (h : ∀ k : Nat, many ≤ 2 ^ k → Q (.int k) σ) : Wc g (d + 1) (.ref 602) σ [.int many] Q := by
  refine' wc_def [S "many"] ?ho ?hcd ?hb ?hl ?h ?c1 ?c2 ?c3 ?c4
  walk_at "DEF"
  intro L
  refine wss_cons <| wx_assign_tup <| we_tuple <| wl_cons <| we_int <| wl_cons <| we_int <| wl_nil ⟨by exact Nat.le_of_ble_eq_true rfl, wb_tup <| wb_name <| wb_name ?_⟩
  refine wss_while (fun n ρ' σ' => ∃ k : Nat, ρ'.lookup (S "found") = some (.int k) ∧ ρ'.lookup (S "size") = some (.int (2 ^ k : Nat)) ∧ ρ'.lookup (S "many") = some (.int many) ∧ σ' = σ ∧ n = many - 2 ^ k) (fun ρ' σ' => ∃ k : Nat, ρ'.lookup (S "found") = some (.int k) ∧ σ' = σ ∧ many ≤ 2 ^ k) (many - 1) ⟨0, rfl, rfl, rfl, rfl, rfl⟩ ?_ ?_
  · rintro n ρ' σ' ⟨k, h1, h2, h3, rfl, rfl⟩
    refine wt_cmp <| we_name h2 <| we_name h3 <| lt_ints ⟨_, rfl, ?_⟩
    by_cases hc : 2 ^ k < many
    · rw [decide_eq_true (by exact_mod_cast hc)]
      refine wss_cons <| wx_assign_swap (names := [S "found", S "size"]) rfl <| we_tuple <| wl_cons <| we_bin <| we_name h1 <| we_int <| add_ints <| wl_cons <| we_bin <| we_name h2 <| we_int <| mul_ints (.of_right (by decide)) <| wl_nil ⟨by exact Nat.le_of_ble_eq_true rfl, _, rfl, rfl, wb_bind <| wb_bind ?_⟩
      refine wss_nil ⟨many - 2 ^ (k + 1), ?_, k + 1, ?_, ?_, lookup_skip (by decide) (lookup_skip (by decide) h3), rfl, rfl⟩
      · have : 2 ^ (k + 1) = 2 ^ k * 2 := Nat.pow_succ 2 k
        have : 0 < 2 ^ k := Nat.pow_pos (by decide)
        lia
      · rfl
      · have : ((2 ^ (k + 1) : Nat) : Int) = ((2 ^ k : Nat) : Int) * 2 := by rw [Nat.pow_succ]; push_cast; rfl
        rw [this]
        rfl
    · rw [decide_eq_false (by exact_mod_cast hc)]
      exact ⟨k, h1, rfl, Nat.le_of_not_lt hc⟩
  · rintro ρ' σ' ⟨k, h1, rfl, hk⟩
    exact wss_cons <| wx_return <| we_name h1 <| h k hk

theorem Nd.t_tup (n : Nd) : ∃ r, n.t = .tup (.str n.kd.nm :: r) ∧ r.length ≤ 3 := by cases n <;> exact ⟨_, rfl, by exact Nat.le_of_ble_eq_true rfl⟩
section
variable {g : G} {c : Cfg} {ρ : Env₁} {σ : Store}
/-- a told value's name -/
theorem t_word {v i : Expr} {n : Nd} {Q : V → Store → Prop} (h : Q (.str n.kd.nm) σ) (hs : (match i with | .Slice .. => false | _ => true) = true := by rfl) : Wp g c ρ σ [n.t, .int 0] Rep (op2 (subscriptTail v i)) Q := by
  obtain ⟨r, e, hr⟩ := n.t_tup
  rw [e]
  refine sub_tup (j := 0) ?_ rfl (by decide) h hs
  simp [seqIndex?]
end
theorem any_nm (k : Kd) : ([S "cat", S "alt"].any (· == k.nm)) = (decide (k = .cat) || decide (k = .alt)) := by cases k <;> decide +kernel
theorem c_spread {g : G} {σ : Store} {d : Nat} (n : Nd) (hz : n.ht ≤ 2 ^ 20) {Q : V → Store → Prop} (h : Q (.list (n.spine.map Nd.t)) σ) : Wc g (d + 1) (.ref 590) σ [n.t] Q := by
  refine' wc_def [S "given"] ?ho ?hcd ?hb ?hl ?h ?c1 ?c2 ?c3 ?c4
  walk_at "DEF"
  intro L
  refine wss_cons <| wx_assign_swap (names := [S "found", S "here"]) rfl <| we_tuple <| wl_cons <| we_list <| wl_nil ⟨by exact Nat.le_of_ble_eq_true rfl, wl_cons <| we_name rfl <| wl_nil ⟨by exact Nat.le_of_ble_eq_true rfl, _, rfl, rfl, wb_bind <| wb_bind ?_⟩⟩
  refine wss_while (fun k ρ' σ' => ∃ (hr : Nd) (Ps : List Nd), ρ'.lookup (S "here") = some hr.t ∧ ρ'.lookup (S "given") = some n.t ∧ ρ'.lookup (S "found") = some (.list (Ps.map Nd.t)) ∧ σ' = σ ∧ hr.size = k ∧ hr.ht + Ps.length ≤ n.ht ∧ n.spine = spineK n.kd hr ++ Ps)
    (fun ρ' σ' => ∃ (hr : Nd) (Ps : List Nd), ρ'.lookup (S "here") = some hr.t ∧ ρ'.lookup (S "found") = some (.list (Ps.map Nd.t)) ∧ σ' = σ ∧ Ps.length + 1 ≤ n.ht ∧ n.spine = [hr] ++ Ps) n.size ⟨n, [], rfl, rfl, rfl, rfl, rfl, by simp, by simp [Nd.spine]⟩ ?_ ?_
  rotate_left
  · rintro ρ' σ' ⟨hr, Ps, h1, h3, rfl, h6, h7⟩
    refine wss_cons <| wx_return <| we_bin <| we_list <| wl_cons <| we_name h1 <| wl_nil ⟨by exact Nat.le_of_ble_eq_true rfl, we_name h3 <| add_lists' (by simp only [List.length_map, List.length_cons, List.length_nil]; lia) ?_⟩
    rw [h7] at h
    simpa using h
  rintro k ρ' σ' ⟨hr, Ps, h1, h2, h3, rfl, h5, h6, h7⟩
  have hp := hr.ht_pos
  have hp' := hr.size_pos
  refine wt_boolop <| wall_and <| wt_cmp <| we_sub <| we_name h1 <| we_int <| t_word <| we_sub <| we_name h2 <| we_int <| t_word <| eq_strs ⟨_, rfl, ?_⟩
  rw [nm_inj]
  by_cases hk : hr.kd = n.kd
  · rw [decide_eq_true hk]
    refine wall_and <| wt_cmp <| we_sub <| we_name h1 <| we_int <| t_word <| we_tuple <| wl_cons <| we_str <| wl_cons <| we_str <| wl_nil ⟨by exact Nat.le_of_ble_eq_true rfl, in_tup (ys := [S "cat", S "alt"]) ⟨_, rfl, ?_⟩⟩
    rw [any_nm]
    by_cases hc : hr.kd = .cat
    · rw [decide_eq_true hc]
      refine wall_nil ?_
      cases hr <;> first | (exact Kd.noConfusion hc) | skip
      rename_i l r
      refine wss_cons <| wx_assign <| we_bin <| we_list <| wl_cons <| we_sub <| we_name h1 <| we_int <| sub_tup (j := 2) rfl rfl (by decide) <| wl_nil ⟨by exact Nat.le_of_ble_eq_true rfl, we_name h3 <| add_lists' (by simp only [List.length_map, List.length_cons, List.length_nil]; simp only [Nd.ht] at h6; lia) ?_⟩
      refine wss_cons <| wx_assign <| we_sub <| we_name (lookup_skip (by decide) h1) <| we_int <| sub_tup (j := 1) rfl rfl (by decide) ?_
      have e : n.kd = .cat := hk.symm
      refine wss_nil ⟨l.size, by rw [← h5]; simp only [Nd.size]; lia, l, r :: Ps, rfl, lookup_skip (by decide) (lookup_skip (by decide) h2), rfl, rfl, rfl, ?_, ?_⟩
      · simp only [Nd.ht] at h6; simp only [List.length_cons]; lia
      · rw [h7, e]; simp [spineK]
    · rw [decide_eq_false hc]
      by_cases hb : hr.kd = .alt
      · rw [decide_eq_true hb]
        refine wall_nil ?_
        cases hr <;> first | (exact Kd.noConfusion hb) | skip
        rename_i l r
        refine wss_cons <| wx_assign <| we_bin <| we_list <| wl_cons <| we_sub <| we_name h1 <| we_int <| sub_tup (j := 2) rfl rfl (by decide) <| wl_nil ⟨by exact Nat.le_of_ble_eq_true rfl, we_name h3 <| add_lists' (by simp only [List.length_map, List.length_cons, List.length_nil]; simp only [Nd.ht] at h6; lia) ?_⟩
        refine wss_cons <| wx_assign <| we_sub <| we_name (lookup_skip (by decide) h1) <| we_int <| sub_tup (j := 1) rfl rfl (by decide) ?_
        have e : n.kd = .alt := hk.symm
        refine wss_nil ⟨l.size, by rw [← h5]; simp only [Nd.size]; lia, l, r :: Ps, rfl, lookup_skip (by decide) (lookup_skip (by decide) h2), rfl, rfl, rfl, ?_, ?_⟩
        · simp only [Nd.ht] at h6; simp only [List.length_cons]; lia
        · rw [h7, e]; simp [spineK]
      · rw [decide_eq_false hb]
        refine ⟨hr, Ps, h1, h3, rfl, by lia, h7.trans (congrArg (· ++ Ps) ?_)⟩
        cases hr <;> first | rfl | (exact absurd rfl hc) | (exact absurd rfl hb)
  · rw [decide_eq_false hk]
    refine ⟨hr, Ps, h1, h3, rfl, by lia, h7.trans (congrArg (· ++ Ps) ?_)⟩
    cases hr <;> first | rfl | skip
    · simp only [spineK]; rw [if_neg (fun e => hk e.symm)]
    · simp only [spineK]; rw [if_neg (fun e => hk e.symm)]
-- Y2
/-- the short words of a node, as the law reads them -/
def sem : Nd → Wd → Prop
  | .empty, x => x = []
  | .never, _ => False
  | .chars b, x => x = [b]
  | .cat l r, x => x.length < 3 ∧ ∃ u v, x = u ++ v ∧ sem l u ∧ sem r v
  | .alt l r, x => sem l x ∨ sem r x
  | .star y, x => x.length < 3 ∧ ∃ u v, x = u ++ v ∧ (u = [] ∨ sem y u) ∧ (v = [] ∨ sem y v)
  | .plus y, x => x.length < 3 ∧ ∃ u v, x = u ++ v ∧ sem y u ∧ (v = [] ∨ sem y v)
  | .opt y, x => x = [] ∨ sem y x
  | .rep z y, x => x.length < 3 ∧ ∃ u v, x = u ++ v ∧ ((z = false ∧ u = []) ∨ sem y u) ∧ (v = [] ∨ sem y v)
theorem sem_short : ∀ (n : Nd) (x : Wd), sem n x → x.length < 3
  | .empty, x, h => by rw [show x = [] from h]; decide
  | .never, _, h => h.elim
  | .chars b, x, h => by rw [show x = [b] from h]; simp
  | .cat _ _, _, h => h.1
  | .alt l r, x, h => h.elim (sem_short l x) (sem_short r x)
  | .star _, _, h => h.1
  | .plus _, _, h => h.1
  | .opt y, x, h => h.elim (fun e => by rw [e]; decide) (sem_short y x)
  | .rep _ _, _, h => h.1
theorem canE_sem : ∀ n : Nd, canE n = true ↔ sem n []
  | .empty => by simp [canE, sem]
  | .never => by simp [canE, sem]
  | .chars b => by simp [canE, sem]
  | .cat l r => by
    simp only [canE, sem, Bool.and_eq_true, canE_sem l, canE_sem r]
    constructor
    · exact fun ⟨a, b⟩ => ⟨by decide, [], [], rfl, a, b⟩
    · rintro ⟨_, u, v, e, a, b⟩
      obtain ⟨rfl, rfl⟩ := List.append_eq_nil_iff.mp e.symm
      exact ⟨a, b⟩
  | .alt l r => by simp only [canE, sem, Bool.or_eq_true, canE_sem l, canE_sem r]
  | .star y => by simp only [canE, sem, true_iff]; exact ⟨by decide, [], [], rfl, .inl rfl, .inl rfl⟩
  | .plus y => by
    simp only [canE, sem, canE_sem y]
    constructor
    · exact fun a => ⟨by decide, [], [], rfl, a, .inl rfl⟩
    · rintro ⟨_, u, v, e, a, b⟩
      obtain ⟨rfl, rfl⟩ := List.append_eq_nil_iff.mp e.symm
      exact a
  | .opt y => by simp [canE, sem]
  | .rep z y => by
    simp only [canE, sem, Bool.or_eq_true, canE_sem y]
    constructor
    · rintro (h | h)
      · exact ⟨by decide, [], [], rfl, .inl ⟨by simpa using h, rfl⟩, .inl rfl⟩
      · exact ⟨by decide, [], [], rfl, .inr h, .inl rfl⟩
    · rintro ⟨_, u, v, e, a, b⟩
      obtain ⟨rfl, rfl⟩ := List.append_eq_nil_iff.mp e.symm
      rcases a with ⟨rfl, _⟩ | a
      · exact .inl rfl
      · exact .inr a
/-- a row of nodes, read -/
def semRow : List Nd → Wd → Prop
  | [], x => x = []
  | p :: ps, x => ∃ u v, x = u ++ v ∧ sem p u ∧ semRow ps v
theorem semRow_append : ∀ (ps qs : List Nd) (x : Wd), semRow (ps ++ qs) x ↔ ∃ u v, x = u ++ v ∧ semRow ps u ∧ semRow qs v
  | [], qs, x => by
    simp only [List.nil_append, semRow]
    constructor
    · exact fun h => ⟨[], x, rfl, rfl, h⟩
    · rintro ⟨u, v, rfl, rfl, h⟩; exact h
  | p :: ps, qs, x => by
    simp only [List.cons_append, semRow]
    constructor
    · rintro ⟨u, v, rfl, hu, hv⟩
      obtain ⟨a, b, rfl, ha, hb⟩ := (semRow_append ps qs v).mp hv
      exact ⟨u ++ a, b, by simp, ⟨u, a, rfl, hu, ha⟩, hb⟩
    · rintro ⟨_, b, rfl, ⟨u, a, rfl, hu, ha⟩, hb⟩
      exact ⟨u, a ++ b, by simp, hu, (semRow_append ps qs _).mpr ⟨a, b, rfl, ha, hb⟩⟩
theorem semRow_one (p : Nd) (x : Wd) : semRow [p] x ↔ sem p x := by
  simp only [semRow]
  constructor
  · rintro ⟨u, v, rfl, hu, rfl⟩; simpa using hu
  · exact fun h => ⟨x, [], by simp, h, rfl⟩
theorem semRow_snoc (ps : List Nd) (p : Nd) (x : Wd) : semRow (ps ++ [p]) x ↔ ∃ u v, x = u ++ v ∧ semRow ps u ∧ sem p v := by
  rw [semRow_append]
  constructor
  · rintro ⟨u, v, e, a, b⟩; exact ⟨u, v, e, a, (semRow_one _ _).mp b⟩
  · rintro ⟨u, v, e, a, b⟩; exact ⟨u, v, e, a, (semRow_one _ _).mpr b⟩
/-- a concatenation is the row of its spine -/
theorem sem_cat : ∀ (n : Nd) (x : Wd), x.length < 3 → (sem n x ↔ semRow (spineK .cat n) x)
  | .cat l r, x, hx => by
    simp only [spineK, if_true, sem]
    rw [semRow_snoc]
    constructor
    · rintro ⟨_, u, v, rfl, a, b⟩
      exact ⟨u, v, rfl, (sem_cat l u (sem_short l u a)).mp a, b⟩
    · rintro ⟨u, v, rfl, a, b⟩
      refine ⟨hx, u, v, rfl, (sem_cat l u ?_).mpr a, b⟩
      simp only [List.length_append] at hx; lia
  | .alt l r, x, _ => by rw [show spineK .cat (.alt l r) = [.alt l r] by simp [spineK], semRow_one]
  | .empty, x, _ => (semRow_one _ _).symm
  | .never, x, _ => (semRow_one _ _).symm
  | .chars _, x, _ => (semRow_one _ _).symm
  | .star _, x, _ => (semRow_one _ _).symm
  | .plus _, x, _ => (semRow_one _ _).symm
  | .opt _, x, _ => (semRow_one _ _).symm
  | .rep _ _, x, _ => (semRow_one _ _).symm
theorem sem_alt : ∀ (n : Nd) (x : Wd), sem n x ↔ ∃ p ∈ spineK .alt n, sem p x
  | .alt l r, x => by
    simp only [spineK, if_true, sem, sem_alt l x, List.mem_append, List.mem_singleton]
    constructor
    · rintro (⟨p, hp, h⟩ | h)
      · exact ⟨p, .inl hp, h⟩
      · exact ⟨r, .inr rfl, h⟩
    · rintro ⟨p, hp | rfl, h⟩
      · exact .inl ⟨p, hp, h⟩
      · exact .inr h
  | .cat l r, x => by simp [spineK]
  | .empty, x => by simp [spineK]
  | .never, x => by simp [spineK]
  | .chars _, x => by simp [spineK]
  | .star _, x => by simp [spineK]
  | .plus _, x => by simp [spineK]
  | .opt _, x => by simp [spineK]
  | .rep _ _, x => by simp [spineK]
/-- how deep, and how deep a row's or a choice's parts go -/
def dd : Nd → Nat × Nat × Nat
  | .empty => (1, 1, 1)
  | .never => (1, 1, 1)
  | .chars _ => (1, 1, 1)
  | .cat l r => (1 + max (dd l).2.1 (dd r).1, max (dd l).2.1 (dd r).1, 1 + max (dd l).2.1 (dd r).1)
  | .alt l r => (1 + max (dd l).2.2 (dd r).1, 1 + max (dd l).2.2 (dd r).1, max (dd l).2.2 (dd r).1)
  | .star x => (1 + (dd x).1, 1 + (dd x).1, 1 + (dd x).1)
  | .plus x => (1 + (dd x).1, 1 + (dd x).1, 1 + (dd x).1)
  | .opt x => (1 + (dd x).1, 1 + (dd x).1, 1 + (dd x).1)
  | .rep _ x => (1 + (dd x).1, 1 + (dd x).1, 1 + (dd x).1)
theorem dd_cat : ∀ (n : Nd), ∀ p ∈ spineK .cat n, (dd p).1 ≤ (dd n).2.1
  | .cat l r, p, hp => by
    simp only [spineK, if_true, List.mem_append, List.mem_singleton] at hp
    simp only [dd]
    rcases hp with hp | rfl
    · have := dd_cat l p hp; lia
    · lia
  | .alt l r, p, hp => by simp only [spineK, reduceCtorEq, if_false, List.mem_singleton] at hp; subst hp; simp [dd]
  | .empty, p, hp => by simp only [spineK, List.mem_singleton] at hp; subst hp; simp [dd]
  | .never, p, hp => by simp only [spineK, List.mem_singleton] at hp; subst hp; simp [dd]
  | .chars _, p, hp => by simp only [spineK, List.mem_singleton] at hp; subst hp; simp [dd]
  | .star _, p, hp => by simp only [spineK, List.mem_singleton] at hp; subst hp; simp [dd]
  | .plus _, p, hp => by simp only [spineK, List.mem_singleton] at hp; subst hp; simp [dd]
  | .opt _, p, hp => by simp only [spineK, List.mem_singleton] at hp; subst hp; simp [dd]
  | .rep _ _, p, hp => by simp only [spineK, List.mem_singleton] at hp; subst hp; simp [dd]
theorem dd_alt : ∀ (n : Nd), ∀ p ∈ spineK .alt n, (dd p).1 ≤ (dd n).2.2
  | .alt l r, p, hp => by
    simp only [spineK, if_true, List.mem_append, List.mem_singleton] at hp
    simp only [dd]
    rcases hp with hp | rfl
    · have := dd_alt l p hp; lia
    · lia
  | .cat l r, p, hp => by simp only [spineK, reduceCtorEq, if_false, List.mem_singleton] at hp; subst hp; simp [dd]
  | .empty, p, hp => by simp only [spineK, List.mem_singleton] at hp; subst hp; simp [dd]
  | .never, p, hp => by simp only [spineK, List.mem_singleton] at hp; subst hp; simp [dd]
  | .chars _, p, hp => by simp only [spineK, List.mem_singleton] at hp; subst hp; simp [dd]
  | .star _, p, hp => by simp only [spineK, List.mem_singleton] at hp; subst hp; simp [dd]
  | .plus _, p, hp => by simp only [spineK, List.mem_singleton] at hp; subst hp; simp [dd]
  | .opt _, p, hp => by simp only [spineK, List.mem_singleton] at hp; subst hp; simp [dd]
  | .rep _ _, p, hp => by simp only [spineK, List.mem_singleton] at hp; subst hp; simp [dd]
/-- what the law's own reading gives for a node -/
structure Shows (n : Nd) (ws : List Wd) : Prop where
  good : GoodWs ws
  mem : ∀ x, x ∈ ws ↔ sem n x
inductive ShowsAll : List Nd → List (List Wd) → Prop
  | nil : ShowsAll [] []
  | cons {n : Nd} {ws : List Wd} {ns : List Nd} {rows : List (List Wd)} : Shows n ws → ShowsAll ns rows → ShowsAll (n :: ns) (ws :: rows)
theorem ShowsAll.snoc {n : Nd} {ws : List Wd} : ∀ {ns : List Nd} {rows : List (List Wd)}, ShowsAll ns rows → Shows n ws → ShowsAll (ns ++ [n]) (rows ++ [ws])
  | _, _, .nil, h => .cons h .nil
  | _, _, .cons k r, h => .cons k (r.snoc h)
theorem ShowsAll.len : ∀ {ns : List Nd} {rows : List (List Wd)}, ShowsAll ns rows → rows.length = ns.length
  | _, _, .nil => rfl
  | _, _, .cons _ r => by simp [r.len]
theorem ShowsAll.ok : ∀ {ns : List Nd} {rows : List (List Wd)}, ShowsAll ns rows → ∀ r ∈ rows, r.length ≤ 7 ∧ ∀ x ∈ r, x.length < 3
  | _, _, .nil, _, h => by cases h
  | _, _, .cons k r, w, h => by
    rcases List.mem_cons.mp h with rfl | h
    · exact ⟨k.good.le, k.good.short⟩
    · exact r.ok w h
theorem ShowsAll.prod : ∀ {ns : List Nd} {rows : List (List Wd)}, ShowsAll ns rows → ∀ x, Prod rows x ↔ semRow ns x
  | _, _, .nil, x => Iff.rfl
  | _, _, .cons k r, x => by
    simp only [Prod, semRow]
    constructor
    · rintro ⟨o, ho, y, hy, rfl⟩
      exact ⟨o, y, rfl, (k.mem o).mp ho, (r.prod y).mp hy⟩
    · rintro ⟨o, y, rfl, ho, hy⟩
      exact ⟨o, (k.mem o).mpr ho, y, (r.prod y).mpr hy, rfl⟩
theorem ShowsAll.union : ∀ {ns : List Nd} {rows : List (List Wd)}, ShowsAll ns rows → ∀ x, x ∈ rows.flatten ↔ ∃ p ∈ ns, sem p x
  | _, _, .nil, x => by simp
  | _, _, .cons k r, x => by
    rw [List.flatten_cons, List.mem_append, r.union, k.mem]
    simp
theorem shows_cat {n : Nd} {rows : List (List Wd)} (h : ShowsAll (spineK .cat n) rows) : Shows n (wordsB rows) :=
  ⟨wordsB_good rows, fun x => by
    rw [wordsB_mem, h.prod]
    constructor
    · exact fun ⟨a, b⟩ => (sem_cat n x a).mpr b
    · exact fun a => ⟨sem_short n x a, (sem_cat n x (sem_short n x a)).mp a⟩⟩
theorem prod_one {r : List Wd} {x : Wd} : Prod [r] x ↔ x ∈ r := by
  simp only [Prod]
  constructor
  · rintro ⟨o, ho, y, rfl, rfl⟩; simpa using ho
  · exact fun h => ⟨x, h, [], rfl, by simp⟩
theorem prod_two {r q : List Wd} {x : Wd} : Prod [r, q] x ↔ ∃ u v, x = u ++ v ∧ u ∈ r ∧ v ∈ q := by
  show (∃ o ∈ r, ∃ y, Prod [q] y ∧ x = o ++ y) ↔ _
  constructor
  · rintro ⟨o, ho, y, hy, rfl⟩; exact ⟨o, y, rfl, ho, prod_one.mp hy⟩
  · rintro ⟨u, v, rfl, a, b⟩; exact ⟨u, a, v, prod_one.mpr b, rfl⟩
theorem shows_alt {n : Nd} {rows : List (List Wd)} (h : ShowsAll (spineK .alt n) rows) : Shows n (wordsB [rows.flatten]) :=
  ⟨wordsB_good _, fun x => by
    rw [wordsB_mem, prod_one, h.union, ← sem_alt]
    exact ⟨fun a => a.2, fun a => ⟨sem_short n x a, a⟩⟩⟩
theorem shows_star {y : Nd} {ws : List Wd} (h : Shows y ws) : Shows (.star y) (wordsB [[] :: ws, [] :: ws]) :=
  ⟨wordsB_good _, fun x => by rw [wordsB_mem, prod_two]; simp only [sem, List.mem_cons, h.mem]⟩
theorem shows_plus {y : Nd} {ws : List Wd} (h : Shows y ws) : Shows (.plus y) (wordsB [ws, [] :: ws]) :=
  ⟨wordsB_good _, fun x => by rw [wordsB_mem, prod_two]; simp only [sem, List.mem_cons, h.mem]⟩
theorem shows_opt {y : Nd} {ws : List Wd} (h : Shows y ws) : Shows (.opt y) (wordsB [[] :: ws]) :=
  ⟨wordsB_good _, fun x => by
    rw [wordsB_mem, prod_one]
    simp only [sem, List.mem_cons, h.mem]
    exact ⟨fun a => a.2, fun a => ⟨a.elim (fun e => by rw [e]; decide) (sem_short y x), a⟩⟩⟩
theorem shows_rep0 {y : Nd} {ws : List Wd} (h : Shows y ws) : Shows (.rep false y) (wordsB [[] :: ws, [] :: ws]) :=
  ⟨wordsB_good _, fun x => by rw [wordsB_mem, prod_two]; simp only [sem, List.mem_cons, h.mem, true_and]⟩
theorem shows_rep1 {y : Nd} {ws : List Wd} (h : Shows y ws) : Shows (.rep true y) (wordsB [ws, [] :: ws]) :=
  ⟨wordsB_good _, fun x => by rw [wordsB_mem, prod_two]; simp only [sem, List.mem_cons, h.mem, Bool.true_eq_false, false_and, false_or]⟩
-- Y3
theorem not_canE {n : Nd} (h : canE n = false) : ¬ sem n [] := fun hs => by
  rw [(canE_sem n).mpr hs] at h; cases h
theorem sem_altF : ∀ (ps : List Nd) (p : Nd) (x : Wd), sem (ps.foldl .alt p) x ↔ sem p x ∨ ∃ q ∈ ps, sem q x
  | [], p, x => by simp
  | q :: ps, p, x => by
    rw [List.foldl_cons, sem_altF ps]
    simp only [sem, List.mem_cons, exists_eq_or_imp, or_assoc]
theorem sem_altA (ms : List Nd) (x : Wd) : sem (altA ms) x ↔ ∃ p ∈ ms, sem p x := by
  cases ms with
  | nil => simp [altA, sem]
  | cons p ps => rw [altA, sem_altF]; simp
theorem sem_catF : ∀ (ps : List Nd) (p : Nd) (x : Wd), x.length < 3 → (sem (ps.foldl .cat p) x ↔ ∃ u v, x = u ++ v ∧ sem p u ∧ semRow ps v)
  | [], p, x, _ => by
    simp only [List.foldl_nil, semRow]
    constructor
    · exact fun h => ⟨x, [], by simp, h, rfl⟩
    · rintro ⟨u, v, rfl, h, rfl⟩; simpa using h
  | q :: ps, p, x, hx => by
    rw [List.foldl_cons, sem_catF ps _ x hx]
    simp only [sem, semRow]
    constructor
    · rintro ⟨_, b, rfl, ⟨_, u, v, rfl, hu, hv⟩, hb⟩
      exact ⟨u, v ++ b, by simp, hu, v, b, rfl, hv, hb⟩
    · rintro ⟨u, _, rfl, hu, v, b, rfl, hv, hb⟩
      refine ⟨u ++ v, b, by simp, ⟨?_, u, v, rfl, hu, hv⟩, hb⟩
      simp only [List.length_append] at hx ⊢; lia
theorem sem_catA (p : Nd) (ps : List Nd) (x : Wd) (hx : x.length < 3) : sem (catA (p :: ps)) x ↔ semRow (p :: ps) x := sem_catF ps p x hx
theorem row_nil : ∀ (ps : List Nd), (∀ p ∈ ps, canE p = true) → semRow ps []
  | [], _ => rfl
  | p :: ps, h => ⟨[], [], rfl, (canE_sem p).mp (h p (.head _)), row_nil ps fun q hq => h q (.tail _ hq)⟩
theorem app_ne {u v : Wd} (h : u ≠ []) : u ++ v ≠ [] := fun e => h (List.append_eq_nil_iff.mp e).1
mutual
theorem Bare.sem {n m : Nd} : Bare n m → ∀ x, Mine.sem m x ↔ Mine.sem n x ∧ x ≠ []
  | .keep hc, x => ⟨fun h => ⟨h, fun e => not_canE hc (e ▸ h)⟩, fun h => h.1⟩
  | .empty, x => ⟨fun h => h.elim, fun h => h.2 h.1⟩
  | .cat (n := n) hc hk hr, x => by
    have hall : ∀ p ∈ n.spine, canE p = true := by
      have := canE_cat n
      rw [hc] at this
      have e : n.spine = spineK .cat n := by rw [Nd.spine, hk]
      rw [e]
      exact List.all_eq_true.mp this
    have e : n.spine = spineK .cat n := by rw [Nd.spine, hk]
    constructor
    · intro h
      have hx := sem_short _ x h
      have := (hr.sem hall x hx).mp h
      rw [e] at this
      exact ⟨(sem_cat n x hx).mpr this.1, this.2⟩
    · rintro ⟨h, hne⟩
      have hx := sem_short _ x h
      refine (hr.sem hall x hx).mpr ⟨?_, hne⟩
      rw [e]
      exact (sem_cat n x hx).mp h
  | .alt (n := n) hc hk ha, x => by
    have e : n.spine = spineK .alt n := by rw [Nd.spine, hk]
    rw [sem_altA, ha.sem x, e, ← sem_alt]
  | .star hy, x => by
    simp only [Mine.sem, hy.sem]
    constructor
    · rintro ⟨hx, u, v, rfl, ⟨hu, hne⟩, hv⟩
      exact ⟨⟨hx, u, v, rfl, .inr hu, hv.imp id fun h => h.1⟩, app_ne hne⟩
    · rintro ⟨⟨hx, u, v, rfl, hu, hv⟩, hne⟩
      by_cases eu : u = []
      · subst eu
        have hv' := hv.resolve_left (fun e => hne (by rw [e]; rfl))
        exact ⟨hx, v, [], by simp, ⟨hv', fun e => hne (by rw [e]; rfl)⟩, .inl rfl⟩
      · refine ⟨hx, u, v, rfl, ⟨hu.resolve_left eu, eu⟩, ?_⟩
        by_cases ev : v = []
        · exact .inl ev
        · exact .inr ⟨hv.resolve_left ev, ev⟩
  | .plus (x := y) hc hy, x => by
    simp only [Mine.sem, hy.sem]
    constructor
    · rintro ⟨hx, u, v, rfl, ⟨hu, hne⟩, hv⟩
      exact ⟨⟨hx, u, v, rfl, hu, hv.imp id fun h => h.1⟩, app_ne hne⟩
    · rintro ⟨⟨hx, u, v, rfl, hu, hv⟩, hne⟩
      by_cases eu : u = []
      · subst eu
        have hv' := hv.resolve_left (fun e => hne (by rw [e]; rfl))
        exact ⟨hx, v, [], by simp, ⟨hv', fun e => hne (by rw [e]; rfl)⟩, .inl rfl⟩
      · refine ⟨hx, u, v, rfl, ⟨hu, eu⟩, ?_⟩
        by_cases ev : v = []
        · exact .inl ev
        · exact .inr ⟨hv.resolve_left ev, ev⟩
  | .opt hy, x => by
    simp only [Mine.sem, hy.sem]
    exact ⟨fun h => ⟨.inr h.1, h.2⟩, fun h => ⟨h.1.resolve_left h.2, h.2⟩⟩
  | .rep (z := z) (x := y) hc hy, x => by
    simp only [Mine.sem, hy.sem, Bool.true_eq_false, false_and, false_or]
    constructor
    · rintro ⟨hx, u, v, rfl, ⟨hu, hne⟩, hv⟩
      exact ⟨⟨hx, u, v, rfl, .inr hu, hv.imp id fun h => h.1⟩, app_ne hne⟩
    · rintro ⟨⟨hx, u, v, rfl, hu, hv⟩, hne⟩
      by_cases eu : u = []
      · subst eu
        have hv' := hv.resolve_left (fun e => hne (by rw [e]; rfl))
        exact ⟨hx, v, [], by simp, ⟨hv', fun e => hne (by rw [e]; rfl)⟩, .inl rfl⟩
      · refine ⟨hx, u, v, rfl, ⟨hu.resolve_left (fun h => eu h.2), eu⟩, ?_⟩
        by_cases ev : v = []
        · exact .inl ev
        · exact .inr ⟨hv.resolve_left ev, ev⟩
theorem BareRow.sem {ps : List Nd} {m : Nd} : BareRow ps m → (∀ p ∈ ps, canE p = true) → ∀ x, x.length < 3 → (Mine.sem m x ↔ semRow ps x ∧ x ≠ [])
  | .one hp, _, x, _ => by rw [semRow_one]; exact hp.sem x
  | .more (ps := ps) (l := l) (r := r) h2 hl hr, hall, x, hx => by
    have ht := hl.sem fun p hp => hall p (List.mem_of_mem_take hp)
    have hd := hr.sem fun p hp => hall p (List.mem_of_mem_drop hp)
    have et : semRow ps x ↔ ∃ u v, x = u ++ v ∧ semRow (ps.take (ps.length / 2)) u ∧ semRow (ps.drop (ps.length / 2)) v := by
      conv => lhs; rw [← List.take_append_drop (ps.length / 2) ps]
      exact semRow_append _ _ _
    have ec : Mine.sem (catA (l :: ps.drop (ps.length / 2))) x ↔ ∃ u v, x = u ++ v ∧ Mine.sem l u ∧ semRow (ps.drop (ps.length / 2)) v := sem_catA _ _ x hx
    show Mine.sem (catA (l :: ps.drop (ps.length / 2))) x ∨ Mine.sem r x ↔ _
    rw [et, ec]
    constructor
    · rintro (⟨u, v, rfl, hu, hv⟩ | h)
      · have hu' := (ht u (by simp only [List.length_append] at hx; lia)).mp hu
        exact ⟨⟨u, v, rfl, hu'.1, hv⟩, app_ne hu'.2⟩
      · have h' := (hd x hx).mp h
        exact ⟨⟨[], x, rfl, row_nil _ fun p hp => hall p (List.mem_of_mem_take hp), h'.1⟩, h'.2⟩
    · rintro ⟨⟨u, v, rfl, hu, hv⟩, hne⟩
      by_cases eu : u = []
      · subst eu
        exact .inr ((hd v hx).mpr ⟨hv, hne⟩)
      · exact .inl ⟨u, v, rfl, (ht u (by simp only [List.length_append] at hx; lia)).mpr ⟨hu, eu⟩, hv⟩
theorem BareAll.sem {ns ms : List Nd} : BareAll ns ms → ∀ x, (∃ p ∈ ms, Mine.sem p x) ↔ (∃ p ∈ ns, Mine.sem p x) ∧ x ≠ []
  | .nil, x => by simp
  | .cons (a := a) (b := b) h k, x => by
    simp only [List.mem_cons, exists_eq_or_imp, h.sem x, k.sem x]
    constructor
    · rintro (⟨a, b⟩ | ⟨a, b⟩)
      · exact ⟨.inl a, b⟩
      · exact ⟨.inr a, b⟩
    · rintro ⟨a | a, b⟩
      · exact .inl ⟨a, b⟩
      · exact .inr ⟨a, b⟩
end
theorem Bare.cant {n m : Nd} (h : Bare n m) : canE m = false := by
  cases hc : canE m with
  | false => rfl
  | true => exact absurd rfl ((h.sem []).mp ((canE_sem m).mp hc)).2
theorem Bare.again {m m' : Nd} (hc : canE m = false) (h : Bare m m') : m' = m := by
  cases h with
  | keep _ => rfl
  | empty => cases hc
  | cat h _ _ => rw [h] at hc; cases hc
  | alt h _ _ => rw [h] at hc; cases hc
  | star _ => cases hc
  | plus h _ => exact absurd (h.symm.trans hc) (by decide)
  | opt _ => cases hc
  | rep h _ => rw [h] at hc; cases hc
-- Y4
/-! ## what comes back is one thing -/
mutual
theorem Bare.det {n m : Nd} : Bare n m → ∀ m', Bare n m' → m' = m
  | .keep hc, m', h => h.again hc
  | .empty, m', h => by
    cases h with
    | keep h => cases h
    | empty => rfl
    | cat _ h _ => cases h
    | alt _ h _ => cases h
  | .cat hc hk hr, m', h => by
    cases h with
    | keep h => rw [hc] at h; cases h
    | empty => cases hk
    | cat _ _ hr' => exact hr.det _ hr'
    | alt _ h _ => rw [hk] at h; cases h
    | star _ => cases hk
    | plus _ _ => cases hk
    | opt _ => cases hk
    | rep _ _ => cases hk
  | .alt hc hk ha, m', h => by
    cases h with
    | keep h => rw [hc] at h; cases h
    | empty => cases hk
    | cat _ h _ => rw [hk] at h; cases h
    | alt _ _ ha' => rw [ha.det _ ha']
    | star _ => cases hk
    | plus _ _ => cases hk
    | opt _ => cases hk
    | rep _ _ => cases hk
  | .star hy, m', h => by
    cases h with
    | keep h => cases h
    | cat _ h _ => cases h
    | alt _ h _ => cases h
    | star hy' => rw [hy.det _ hy']
  | .plus hc hy, m', h => by
    cases h with
    | keep h => exact absurd (hc.symm.trans h) (by decide)
    | cat _ h _ => cases h
    | alt _ h _ => cases h
    | plus _ hy' => rw [hy.det _ hy']
  | .opt hy, m', h => by
    cases h with
    | keep h => cases h
    | cat _ h _ => cases h
    | alt _ h _ => cases h
    | opt hy' => exact hy.det _ hy'
  | .rep hc hy, m', h => by
    cases h with
    | keep h => rw [hc] at h; cases h
    | cat _ h _ => cases h
    | alt _ h _ => cases h
    | rep _ hy' => rw [hy.det _ hy']
theorem BareRow.det {ps : List Nd} {m : Nd} : BareRow ps m → ∀ m', BareRow ps m' → m' = m
  | .one hp, m', h => by
    cases h with
    | one hp' => exact hp.det _ hp'
    | more h2 _ _ => simp at h2
  | .more h2 hl hr, m', h => by
    cases h with
    | one hp' => simp at h2
    | more _ hl' hr' => rw [hl.det _ hl', hr.det _ hr']
theorem BareAll.det {ns ms : List Nd} : BareAll ns ms → ∀ ms', BareAll ns ms' → ms' = ms
  | .nil, _, h => by cases h; rfl
  | .cons ha k, _, h => by
    cases h with
    | cons ha' k' => rw [ha.det _ ha', k.det _ k']
end
theorem BareAll.len {ns ms : List Nd} : BareAll ns ms → ms.length = ns.length
  | .nil => rfl
  | .cons _ k => by simp [k.len]
/-! ## how high -/
theorem ht_catF : ∀ (ps : List Nd) (p : Nd) (B : Nat), p.ht ≤ B → (∀ q ∈ ps, q.ht ≤ B) → (ps.foldl .cat p).ht ≤ B + ps.length
  | [], p, B, h, _ => h
  | q :: ps, p, B, h, k => by
    have := ht_catF ps (.cat p q) (B + 1) (by have := k q (.head _); simp only [Nd.ht]; lia) fun r hr => Nat.le_succ_of_le (k r (.tail _ hr))
    simp only [List.foldl_cons, List.length_cons]; lia
theorem ht_altF : ∀ (ps : List Nd) (p : Nd) (B : Nat), p.ht ≤ B → (∀ q ∈ ps, q.ht ≤ B) → (ps.foldl .alt p).ht ≤ B + ps.length
  | [], p, B, h, _ => h
  | q :: ps, p, B, h, k => by
    have := ht_altF ps (.alt p q) (B + 1) (by have := k q (.head _); simp only [Nd.ht]; lia) fun r hr => Nat.le_succ_of_le (k r (.tail _ hr))
    simp only [List.foldl_cons, List.length_cons]; lia
theorem psum_mem {ps : List Nd} {p : Nd} (h : p ∈ ps) : p.size + ps.length ≤ psum ps + 1 := by
  induction ps with
  | nil => cases h
  | cons q ps ih =>
    have hq := q.size_pos
    have hl := psum_len ps
    simp only [psum, List.map_cons, List.sum_cons, List.length_cons] at ih hl ⊢
    rcases List.mem_cons.mp h with rfl | h
    · lia
    · have := ih h; lia
theorem ht_altA (ms : List Nd) (B : Nat) (h : ∀ q ∈ ms, q.ht ≤ B) (hl : 1 ≤ ms.length) : (altA ms).ht ≤ B + (ms.length - 1) := by
  cases ms with
  | nil => simp at hl
  | cons p ps => exact ht_altF ps p B (h p (.head _)) fun q hq => h q (.tail _ hq)
mutual
theorem Bare.ht {n m : Nd} : Bare n m → m.ht ≤ n.size + 1
  | .keep _ => Nat.le_succ_of_le (Nd.ht_size _)
  | .empty => by decide
  | .cat (n := n) _ hk hr => by
    have e : psum n.spine + n.spine.length = n.size + 1 := spineK_sum n
    have := hr.ht
    lia
  | .alt (n := n) (ms := ms) _ hk ha => by
    have e : psum n.spine + n.spine.length = n.size + 1 := spineK_sum n
    have hl := ha.len
    have h2 := spine_two (.inr hk)
    have hb := ha.ht (psum n.spine + 2 - n.spine.length) fun q hq => by have := psum_mem hq; lia
    have := ht_altA ms _ hb (by lia)
    have hl2 := psum_len n.spine
    lia
  | .star hy => by have := hy.ht; simp only [Nd.ht, Nd.size]; lia
  | .plus _ hy => by have := hy.ht; simp only [Nd.ht, Nd.size]; lia
  | .opt hy => by have := hy.ht; simp only [Nd.size]; lia
  | .rep _ hy => by have := hy.ht; simp only [Nd.ht, Nd.size]; lia
theorem BareRow.ht {ps : List Nd} {m : Nd} : BareRow ps m → m.ht ≤ psum ps + ps.length
  | .one hp => by have := hp.ht; simp only [psum, List.map_cons, List.map_nil, List.sum_cons, List.sum_nil, List.length_cons, List.length_nil]; lia
  | .more (ps := ps) (l := l) (r := r) h2 hl hr => by
    have a := hl.ht
    have b := hr.ht
    have p1 := psum_split ps (ps.length / 2)
    have l1 : (ps.take (ps.length / 2)).length = ps.length / 2 := by rw [List.length_take]; lia
    have l2 : (ps.drop (ps.length / 2)).length = ps.length - ps.length / 2 := by rw [List.length_drop]
    have p2 := psum_len (ps.take (ps.length / 2))
    have p3 := psum_len (ps.drop (ps.length / 2))
    have := ht_catF (ps.drop (ps.length / 2)) l (max (psum (ps.take (ps.length / 2)) + ps.length / 2) (psum (ps.drop (ps.length / 2)))) (by lia) fun q hq => by
      have := psum_mem hq
      have := q.ht_size
      lia
    show max (List.foldl Nd.cat l (ps.drop (ps.length / 2))).ht r.ht + 1 ≤ _
    lia
theorem BareAll.ht {ns ms : List Nd} : BareAll ns ms → ∀ B : Nat, (∀ p ∈ ns, p.size + 1 ≤ B) → ∀ q ∈ ms, q.ht ≤ B
  | .nil, _, _, _, h => by cases h
  | .cons ha k, B, hB, q, h => by
    have h1 := Nat.le_trans ha.ht (hB _ (.head _))
    have h2 := k.ht B (fun p hp => hB p (.tail _ hp)) q
    rcases List.mem_cons.mp h with e | h
    · rw [e]; exact h1
    · exact h2 h
end
-- Y5
/-! ## how deep -/
theorem dd_c_le (n : Nd) : (dd n).2.1 ≤ (dd n).1 := by cases n <;> simp only [dd] <;> lia
theorem dd_a_le (n : Nd) : (dd n).2.2 ≤ (dd n).1 := by cases n <;> simp only [dd] <;> lia
theorem dd_catF : ∀ (ps : List Nd) (p : Nd) (B : Nat), (dd p).1 ≤ 1 + B → (dd p).2.1 ≤ B → (∀ q ∈ ps, (dd q).1 ≤ B) → (dd (ps.foldl .cat p)).1 ≤ 1 + B
  | [], _, _, h, _, _ => h
  | q :: ps, p, B, _, h, k => by
    have hq := k q (.head _)
    exact dd_catF ps (.cat p q) B (by simp only [dd]; lia) (by simp only [dd]; lia) fun r hr => k r (.tail _ hr)
theorem dd_altF : ∀ (ps : List Nd) (p : Nd) (B : Nat), (dd p).1 ≤ 1 + B → (dd p).2.2 ≤ B → (∀ q ∈ ps, (dd q).1 ≤ B) → (dd (ps.foldl .alt p)).1 ≤ 1 + B
  | [], _, _, h, _, _ => h
  | q :: ps, p, B, _, h, k => by
    have hq := k q (.head _)
    exact dd_altF ps (.alt p q) B (by simp only [dd]; lia) (by simp only [dd]; lia) fun r hr => k r (.tail _ hr)
theorem dd_altA (ms : List Nd) (B : Nat) (h : ∀ q ∈ ms, (dd q).1 ≤ B) : (dd (altA ms)).1 ≤ 1 + B := by
  cases ms with
  | nil => simp only [altA, dd]; lia
  | cons p ps =>
    have hp := h p (.head _)
    have := dd_a_le p
    exact dd_altF ps p B (by lia) (by lia) fun q hq => h q (.tail _ hq)
theorem dd_catA (ms : List Nd) (B : Nat) (h : ∀ q ∈ ms, (dd q).1 ≤ B) : (dd (catA ms)).1 ≤ 1 + B := by
  cases ms with
  | nil => simp only [catA, dd]; lia
  | cons p ps =>
    have hp := h p (.head _)
    have := dd_c_le p
    exact dd_catF ps p B (by lia) (by lia) fun q hq => h q (.tail _ hq)
/-- a part that stays shallow -/
structure Small (p : Nd) : Prop where
  own : (dd p).1 ≤ 4
  bare : ∀ m, Bare p m → (dd m).1 ≤ 4
  size : p.size ≤ 6
theorem row_deep : ∀ (h : Nat) (ps : List Nd) (m : Nd), ps.length ≤ 2 ^ h → (∀ p ∈ ps, Small p) → BareRow ps m → (dd m).1 ≤ 4 + 2 * h := by
  intro h
  induction h with
  | zero =>
    intro ps m hl hs hr
    cases hr with
    | one hp => exact (hs _ (.head _)).bare _ hp
    | more h2 _ _ => simp only [Nat.pow_zero] at hl; lia
  | succ h ih =>
    intro ps m hl hs hr
    cases hr with
    | one hp => have := (hs _ (.head _)).bare _ hp; lia
    | @more _ l r h2 hl' hr' =>
      have e : 2 ^ (h + 1) = 2 ^ h * 2 := Nat.pow_succ 2 h
      have l1 : (ps.take (ps.length / 2)).length = ps.length / 2 := by rw [List.length_take]; lia
      have l2 : (ps.drop (ps.length / 2)).length = ps.length - ps.length / 2 := by rw [List.length_drop]
      have a := ih _ l (by lia) (fun p hp => hs p (List.mem_of_mem_take hp)) hl'
      have b := ih _ r (by lia) (fun p hp => hs p (List.mem_of_mem_drop hp)) hr'
      have cA := dd_catA (l :: ps.drop (ps.length / 2)) (4 + 2 * h) fun q hq => by
        rcases List.mem_cons.mp hq with rfl | hq
        · exact a
        · have := (hs q (List.mem_of_mem_drop hq)).own; lia
      have := dd_a_le (catA (l :: ps.drop (ps.length / 2)))
      simp only [dd]; lia
theorem BareAll.deep : ∀ {ns ms : List Nd}, BareAll ns ms → (∀ p ∈ ns, Small p) → ∀ q ∈ ms, (dd q).1 ≤ 4
  | _, _, .nil, _, _, h => by cases h
  | _, _, .cons ha k, hs, q, h => by
    rcases List.mem_cons.mp h with rfl | h
    · exact (hs _ (.head _)).bare _ ha
    · exact k.deep (fun p hp => hs p (.tail _ hp)) q h
/-! ## the parts -/
theorem bare_chars {b : Bool} {m : Nd} (h : Bare (.chars b) m) : m = .chars b := h.again rfl ▸ rfl
theorem small_chars (b : Bool) : Small (.chars b) := ⟨by simp [dd], fun m h => by rw [bare_chars h]; simp [dd], by simp [Nd.size]⟩
theorem bare_empty {m : Nd} (h : Bare .empty m) : m = .never := by
  cases h with
  | keep h => cases h
  | empty => rfl
  | cat _ h _ => cases h
  | alt _ h _ => cases h
theorem small_empty : Small .empty := ⟨by simp [dd], fun m h => by rw [bare_empty h]; simp [dd], by simp [Nd.size]⟩
theorem bare_two {p q : Nd} {ms : List Nd} (h : BareAll [p, q] ms) : ∃ a b, Bare p a ∧ Bare q b ∧ ms = [a, b] := by
  cases h with
  | cons ha k => cases k with
    | cons hb k => cases k; exact ⟨_, _, ha, hb, rfl⟩
theorem row_one {p m : Nd} (h : BareRow [p] m) : Bare p m := by
  cases h with
  | one h => exact h
  | more h _ _ => simp at h
theorem bare_opt {x m : Nd} (h : Bare (.opt x) m) : Bare x m := by
  cases h with
  | keep h => cases h
  | cat _ h _ => cases h
  | alt _ h _ => cases h
  | opt h => exact h
theorem bare_star {x m : Nd} (h : Bare (.star x) m) : ∃ y, Bare x y ∧ m = .plus y := by
  cases h with
  | keep h => cases h
  | cat _ h _ => cases h
  | alt _ h _ => cases h
  | star h => exact ⟨_, h, rfl⟩
theorem bare_cat {n m : Nd} (hk : n.kd = .cat) (hc : canE n = true) (h : Bare n m) : BareRow n.spine m := by
  cases h with
  | keep h => rw [hc] at h; cases h
  | empty => cases hk
  | cat _ _ hr => exact hr
  | alt _ h _ => rw [hk] at h; cases h
  | star _ => cases hk
  | plus _ _ => cases hk
  | opt _ => cases hk
  | rep _ _ => cases hk
theorem bare_alt {n m : Nd} (hk : n.kd = .alt) (hc : canE n = true) (h : Bare n m) : ∃ ms, BareAll n.spine ms ∧ m = altA ms := by
  cases h with
  | keep h => rw [hc] at h; cases h
  | empty => cases hk
  | cat _ h _ => rw [hk] at h; cases h
  | alt _ _ h => exact ⟨_, h, rfl⟩
  | star _ => cases hk
  | plus _ _ => cases hk
  | opt _ => cases hk
  | rep _ _ => cases hk
theorem row_more {p q m : Nd} (h : BareRow [p, q] m) : ∃ l r, Bare p l ∧ Bare q r ∧ m = .alt (catA [l, q]) r := by
  cases h with
  | @more _ l r h2 hl hr => exact ⟨l, r, row_one (by simpa using hl), row_one (by simpa using hr), by simp⟩
theorem PartOf.small {n : Nd} {ws : List Wd} (h : PartOf n ws) : Small n := by
  cases h with
  | w0 b => exact ⟨by simp [dd], fun m h => by rw [bare_chars (bare_opt h)]; simp [dd], by simp [Nd.size]⟩
  | w1 b => exact ⟨by simp [dd], fun m h => by obtain ⟨y, hy, rfl⟩ := bare_star h; rw [bare_chars hy]; simp [dd], by simp [Nd.size]⟩
  | w2 b =>
    refine ⟨by simp [dd], fun m h => ?_, by simp [Nd.size]⟩
    cases h with
    | keep h => cases h
    | cat _ h _ => cases h
    | alt _ h _ => cases h
    | rep _ h => rw [bare_chars h]; simp [dd]
  | w3 b =>
    refine ⟨by simp [dd], fun m h => ?_, by simp [Nd.size]⟩
    cases h with
    | keep h => cases h
    | cat _ h _ => cases h
    | alt _ _ h =>
      obtain ⟨a, d, ha, hd, rfl⟩ := bare_two (p := .chars b) (q := .empty) h
      rw [bare_chars ha, bare_empty hd]
      simp [altA, dd]
  | w4 b =>
    refine ⟨by simp [dd], fun m h => ?_, by simp [Nd.size]⟩
    cases h with
    | keep h => cases h
    | cat _ h _ => cases h
    | alt _ _ h =>
      obtain ⟨a, d, ha, hd, rfl⟩ := bare_two (p := .empty) (q := .chars b) h
      rw [bare_empty ha, bare_chars hd]
      simp [altA, dd]
  | w5 b e =>
    refine ⟨by simp [dd], fun m h => ?_, by simp [Nd.size]⟩
    have hr : BareRow [.opt (.chars b), .star (.chars e)] m := bare_cat rfl rfl (bare_opt h)
    obtain ⟨l, r, hl, hs, em⟩ := row_more hr
    have hl' := bare_chars (bare_opt hl)
    obtain ⟨y, hy, er⟩ := bare_star hs
    rw [em, er]
    rw [bare_chars hy, hl']
    simp [catA, dd]
-- X10
def ShownAt (g : G) (n : Nd) : Prop := ∀ (σ : Store) (Q : V → Store → Prop), n.ht ≤ 500 → (∀ ws (M : Int), Shows n ws → M ≤ ((dd n).1 : Int) → Q (.tup [rowV ws, .int M]) σ) → Wc g (n.ht + 3) (.ref 595) σ [n.t] Q
theorem lookup_low (k : Kd) : [(S "star", (0 : Int)), (S "opt", 0), (S "plus", 1)].lookup k.nm = (match k with | .star => some 0 | .opt => some 0 | .plus => some 1 | _ => none) := by cases k <;> decide +kernel
theorem lookup_high (k : Kd) : [(S "star", (2 : Int)), (S "opt", 1), (S "plus", 2)].lookup k.nm = (match k with | .star => some 2 | .opt => some 1 | .plus => some 2 | _ => none) := by cases k <;> decide +kernel
def prV (p : List Wd × Int) : V := .tup [rowV p.1, .int p.2]
theorem prs_get {prs : List (List Wd × Int)} {i : Nat} {Y : V} (h : (prs.map prV)[i]? = some Y) : ∃ p, prs[i]? = some p ∧ Y = prV p := by
  rw [List.getElem?_map] at h
  cases hp : prs[i]? with
  | none => rw [hp] at h; cases h
  | some p => rw [hp] at h; exact ⟨p, rfl, (Option.some.inj h).symm⟩
theorem tds_get {ps : List Nd} {i : Nat} {Y : V} (h : (ps.map Nd.t)[i]? = some Y) : ∃ p, ps[i]? = some p ∧ Y = p.t := by
  rw [List.getElem?_map] at h
  cases hp : ps[i]? with
  | none => rw [hp] at h; cases h
  | some p => rw [hp] at h; exact ⟨p, rfl, (Option.some.inj h).symm⟩
theorem we_ifexp_r {g : G} {c : Cfg} {ρ : Env₁} {σ : Store} {t b o : Expr} {pos : Pos} {Q : V → Store → Prop} (R : V → Store → Prop) (h : Wt g c ρ σ t fun v σ' => match v with | true => We g c ρ σ' b R | false => We g c ρ σ' o R) (k : ∀ X σ', R X σ' → Q X σ') : We g c ρ σ (.IfExp t b o pos) Q :=
  Wp.mono (we_ifexp h) k
/-- the parts that the law reads a node by -/
structure PartsOf (n : Nd) (parts : List Nd) : Prop where
  lt : ∀ p ∈ parts, p.ht < n.ht ∧ p.size < n.size ∧ 1 + (dd p).1 ≤ (dd n).1
  len : 1 ≤ parts.length ∧ parts.length ≤ 500
  pair : n.kd = .cat ∨ n.kd = .alt → parts = n.spine
  loop : ∀ x, (n = .star x ∨ n = .plus x ∨ n = .opt x ∨ ∃ z, n = .rep z x) → parts = [x]
theorem parts_pair {n : Nd} (hz : n.ht ≤ 500) (hk : n.kd = .cat ∨ n.kd = .alt) : PartsOf n n.spine := by
  have lt := spine_lt hk
  have l1 := spineK_pos (k := n.kd) n
  have l2 := spineK_len (k := n.kd) n
  refine ⟨fun p hp => ⟨(lt p hp).1, (lt p hp).2, ?_⟩, ⟨l1, Nat.le_trans l2 hz⟩, fun _ => rfl, ?_⟩
  · cases n <;> simp only [Nd.kd] at hk <;> first | (rcases hk with h | h <;> cases h) | skip
    · rename_i l r
      have := dd_cat (.cat l r) p hp
      simp only [dd] at this ⊢; lia
    · rename_i l r
      have := dd_alt (.alt l r) p hp
      simp only [dd] at this ⊢; lia
  · rintro x (rfl | rfl | rfl | ⟨z, rfl⟩) <;> rcases hk with h | h <;> cases h
theorem parts_loop {n x : Nd} (h : n = .star x ∨ n = .plus x ∨ n = .opt x ∨ ∃ z, n = .rep z x) : PartsOf n [x] := by
  have lp : ∀ y, (n = .star y ∨ n = .plus y ∨ n = .opt y ∨ ∃ z, n = .rep z y) → [x] = [y] := by
    intro y hy
    rcases h with rfl | rfl | rfl | ⟨z, rfl⟩ <;> rcases hy with e | e | e | ⟨_, e⟩ <;> cases e <;> rfl
  refine ⟨fun p hp => ?_, ⟨Nat.le_refl 1, by exact Nat.le_of_ble_eq_true rfl⟩, fun h' => ?_, lp⟩
  · rw [List.mem_singleton.mp hp]
    rcases h with rfl | rfl | rfl | ⟨z, rfl⟩ <;> simp [Nd.ht, Nd.size, dd]
  · rcases h with rfl | rfl | rfl | ⟨z, rfl⟩ <;> rcases h' with e | e <;> cases e
theorem one_part {x : Nd} {parts : List Nd} {rws : List (List Wd)} (e : parts = [x]) (h : ShowsAll parts rws) : ∃ ws, rws = [ws] ∧ Shows x ws := by
  subst e
  cases h with
  | cons a b => cases b; exact ⟨_, rfl, a⟩
theorem ws_ok {n : Nd} {ws : List Wd} (h : Shows n ws) : ws.length ≤ 4000 ∧ ∀ x ∈ ws, x.length < 3 := ⟨Nat.le_trans h.good.le (by decide), h.good.short⟩
theorem eps_ok {n : Nd} {ws : List Wd} (h : Shows n ws) : ([] :: ws).length ≤ 4000 ∧ ∀ x ∈ ([] :: ws), x.length < 3 := ⟨by have := h.good.le; simp only [List.length_cons]; lia, fun x hx => by
  rcases List.mem_cons.mp hx with rfl | hx
  · decide
  · exact h.good.short x hx⟩
theorem ok1 {P : List Wd → Prop} {a : List Wd} (h : P a) : ∀ r ∈ [a], P r := fun r hr => List.mem_singleton.mp hr ▸ h
theorem ok2 {P : List Wd → Prop} {a b : List Wd} (h : P a) (k : P b) : ∀ r ∈ [a, b], P r := fun r hr => by
  rcases List.mem_cons.mp hr with rfl | hr
  · exact h
  · exact List.mem_singleton.mp hr ▸ k
theorem eps_size {n : Nd} {ws : List Wd} {w : V} (h : Shows n ws) : [w].length + (ws.map wdV).length ≤ 2 ^ 24 := by have := h.good.le; simp only [List.length_map, List.length_cons, List.length_nil]; lia
abbrev LoopOf (n x : Nd) : Prop := n = .star x ∨ n = .plus x ∨ n = .opt x ∨ ∃ z, n = .rep z x
theorem is_loop {n : Nd} (k1 : ¬ n.kd = .empty) (k2 : ¬ n.kd = .never) (k3 : ¬ n.kd = .chars) (k4 : ¬ n.kd = .cat) (k5 : ¬ n.kd = .alt) : ∃ x, LoopOf n x := by
  cases n with
  | empty => exact absurd rfl k1
  | never => exact absurd rfl k2
  | chars _ => exact absurd rfl k3
  | cat _ _ => exact absurd rfl k4
  | alt _ _ => exact absurd rfl k5
  | star x => exact ⟨x, .inl rfl⟩
  | plus x => exact ⟨x, .inr (.inl rfl)⟩
  | opt x => exact ⟨x, .inr (.inr (.inl rfl))⟩
  | rep z x => exact ⟨x, .inr (.inr (.inr ⟨z, rfl⟩))⟩
def loN : Nd → Int
  | .plus _ => 1
  | .rep z _ => low z
  | _ => 0
def hiN : Nd → Int
  | .opt _ => 1
  | _ => 2
def bk2 : Nd → V
  | .rep z _ => .int (low z)
  | n => .str n.kd.nm
def bk1 : Nd → V
  | .star x => x.t
  | .plus x => x.t
  | .opt x => x.t
  | _ => .int 2
theorem t_back2 {g : G} {c : Cfg} {ρ : Env₁} {σ : Store} {v i : Expr} {n x : Nd} {Q : V → Store → Prop} (hn : LoopOf n x) (h : Q (bk2 n) σ) (hs : (match i with | .Slice .. => false | _ => true) = true := by rfl) : Wp g c ρ σ [n.t, .int (-2)] Rep (op2 (subscriptTail v i)) Q := by
  rcases hn with rfl | rfl | rfl | ⟨z, rfl⟩
  · exact sub_tup (j := 0) rfl rfl (by decide) h hs
  · exact sub_tup (j := 0) rfl rfl (by decide) h hs
  · exact sub_tup (j := 0) rfl rfl (by decide) h hs
  · exact sub_tup (j := 2) rfl rfl (by decide) h hs
theorem t_back1 {g : G} {c : Cfg} {ρ : Env₁} {σ : Store} {v i : Expr} {n x : Nd} {Q : V → Store → Prop} (hn : LoopOf n x) (h : Q (bk1 n) σ) (hs : (match i with | .Slice .. => false | _ => true) = true := by rfl) : Wp g c ρ σ [n.t, .int (-1)] Rep (op2 (subscriptTail v i)) Q := by
  rcases hn with rfl | rfl | rfl | ⟨z, rfl⟩
  · exact sub_tup (j := 1) rfl rfl (by decide) h hs
  · exact sub_tup (j := 1) rfl rfl (by decide) h hs
  · exact sub_tup (j := 1) rfl rfl (by decide) h hs
  · exact sub_tup (j := 3) rfl rfl (by decide) h hs
theorem low_pick {n x : Nd} (hn : LoopOf n x) : pickD [(S "star", (0 : Int)), (S "opt", 0), (S "plus", 1)] n.kd.nm (bk2 n) = .int (loN n) := by
  unfold pickD
  rw [lookup_low]
  rcases hn with rfl | rfl | rfl | ⟨z, rfl⟩ <;> rfl
theorem high_pick {n x : Nd} (hn : LoopOf n x) : pickD [(S "star", (2 : Int)), (S "opt", 1), (S "plus", 2)] n.kd.nm (bk1 n) = .int (hiN n) := by
  unfold pickD
  rw [lookup_high]
  rcases hn with rfl | rfl | rfl | ⟨z, rfl⟩ <;> rfl
theorem lo_hi {n x : Nd} (hn : LoopOf n x) : (loN n = 0 ∧ hiN n = 2) ∨ (loN n = 0 ∧ hiN n = 1) ∨ (loN n = 1 ∧ hiN n = 2) := by
  rcases hn with rfl | rfl | rfl | ⟨z, rfl⟩
  · exact .inl ⟨rfl, rfl⟩
  · exact .inr (.inr ⟨rfl, rfl⟩)
  · exact .inr (.inl ⟨rfl, rfl⟩)
  · cases z
    · exact .inl ⟨rfl, rfl⟩
    · exact .inr (.inr ⟨rfl, rfl⟩)
theorem shows02 {n x : Nd} {ws : List Wd} (hn : LoopOf n x) (h : Shows x ws) (e₁ : loN n = 0) (e₂ : hiN n = 2) : Shows n (wordsB [[] :: ws, [] :: ws]) := by
  rcases hn with rfl | rfl | rfl | ⟨z, rfl⟩
  · exact shows_star h
  · cases e₁
  · cases e₂
  · cases z
    · exact shows_rep0 h
    · cases e₁
theorem shows01 {n x : Nd} {ws : List Wd} (hn : LoopOf n x) (h : Shows x ws) (e₁ : loN n = 0) (e₂ : hiN n = 1) : Shows n (wordsB [[] :: ws]) := by
  rcases hn with rfl | rfl | rfl | ⟨z, rfl⟩
  · cases e₂
  · cases e₁
  · exact shows_opt h
  · cases e₂
theorem shows12 {n x : Nd} {ws : List Wd} (hn : LoopOf n x) (h : Shows x ws) (e₁ : loN n = 1) (e₂ : hiN n = 2) : Shows n (wordsB [ws, [] :: ws]) := by
  rcases hn with rfl | rfl | rfl | ⟨z, rfl⟩
  · cases e₁
  · exact shows_plus h
  · cases e₁
  · cases z
    · cases e₁
    · exact shows_rep1 h
theorem shown_step {g : G} (n : Nd) (ih : ∀ p, p.size < n.size → ShownAt g p) : ShownAt g n := by
  intro σ Q hz h
  have hsp := n.ht_pos
  refine' wc_def (d := n.ht + 2) [S "given"] ?ho ?hcd ?hb ?hl ?h ?c1 ?c2 ?c3 ?c4
  walk_at "DEF"
  intro L
  refine wss_cons <| wx_assign <| we_sub <| we_name rfl <| we_int <| t_word ?_
  refine wss_cons <| wx_if <| wt_boolop <| wall_or <| wt_cmp <| we_name rfl <| we_str <| eq_strs ⟨_, rfl, ?_⟩
  rw [is_empty]
  by_cases k1 : n.kd = .empty
  · rw [decide_eq_true k1]
    cases n <;> first | (exact Kd.noConfusion k1) | skip
    refine wss_cons <| wx_return <| we_tuple <| wl_cons <| we_ifexp <| wt_cmp <| we_name rfl <| we_str <| eq_strs ⟨_, rfl, ?_⟩
    rw [is_empty]
    refine we_list <| wl_cons <| we_str <| wl_nil ⟨by exact Nat.le_of_ble_eq_true rfl, wl_cons <| we_int <| wl_nil ⟨by exact Nat.le_of_ble_eq_true rfl, ?_⟩⟩
    exact h [[]] 1 ⟨⟨by simp, by simp⟩, fun x => by simp [sem]⟩ (by decide)
  rw [decide_eq_false k1]
  refine wall_or <| wt_cmp <| we_name rfl <| we_str <| eq_strs ⟨_, rfl, ?_⟩
  rw [is_never]
  by_cases k2 : n.kd = .never
  · rw [decide_eq_true k2]
    cases n <;> first | (exact Kd.noConfusion k2) | skip
    refine wss_cons <| wx_return <| we_tuple <| wl_cons <| we_ifexp <| wt_cmp <| we_name rfl <| we_str <| eq_strs ⟨_, rfl, ?_⟩
    rw [is_empty]
    refine we_list <| wl_nil ⟨by exact Nat.le_of_ble_eq_true rfl, wl_cons <| we_int <| wl_nil ⟨by exact Nat.le_of_ble_eq_true rfl, ?_⟩⟩
    exact h [] 1 ⟨⟨by simp, by simp⟩, fun x => by simp [sem]⟩ (by decide)
  rw [decide_eq_false k2]
  refine wall_nil <| wss_nil ?_
  refine wss_cons <| wx_if <| wt_cmp <| we_name rfl <| we_str <| eq_strs ⟨_, rfl, ?_⟩
  rw [is_chars]
  by_cases k3 : n.kd = .chars
  · rw [decide_eq_true k3]
    cases n <;> first | (exact Kd.noConfusion k3) | skip
    rename_i b
    refine wss_cons <| wx_return <| we_tuple <| wl_cons <| we_comp [] [] lies_none <| we_sub <| we_name rfl <| we_int <| sub_tup (j := 1) rfl rfl (by decide) ⟨_, itr_tup _ _, fun C D hD => ⟨fun i ρ' σ' => σ' = (D, .list (if i = 0 then [] else [wdV [b]])) :: σ, _, fun it => compTurn_two _ _ _ _ _ _ _ _ _ it _ _, rfl, ?_, ?_⟩⟩
    · rintro i Y ρ' σ' hY rfl
      match i, hY with
      | 0, hY =>
        cases hY
        refine wu_tup2 rfl rfl <| wts_nil <| wu_nest (by intro _; rfl) <| we_callTs (gb_range _) bt_range <| wl_cons <| we_name rfl <| wl_cons <| we_bin <| we_name rfl <| we_int <| add_ints <| wl_nil <| range2 fun t u v => ?_
        have bb : (ch b : Int) < 2 ^ 20 ∧ 0 ≤ (ch b : Int) ∧ (ch b : Int) ≤ 1114111 := by cases b <;> decide
        refine ⟨_, fun k ρ₂ σ₂ => σ₂ = (D, .list (if k = 0 then [] else [wdV [b]])) :: σ, _, itr_rng _ (by lia) (by lia) (by lia) (by lia), fun it => compTurn_inner _ _ _ _ _ _ _ it _ _, rfl, ?_, ?_⟩
        · rintro k Z ρ₂ σ₂ hZ rfl
          have e1 : ((ch b : Int) + 1 - (ch b : Int)).toNat = 1 := by lia
          rw [e1] at hZ
          match k, hZ with
          | 0, hZ =>
            cases hZ
            refine wu_name rfl <| wts_nil <| wu_emit (acc := []) <| we_callB (gb_chr _) bb_chr <| wl_cons <| we_name rfl <| wl_nil <| chr_int' (by show 0 ≤ (ch b : Int) + 0; lia) (by show (ch b : Int) + 0 ≤ 1114111; lia) ⟨lookup_top, by decide, ?_⟩
            have e2 : put ((D, Cel.list []) :: σ) D (.list ([] ++ [V.str ⟨#[((ch b : Int) + 0).toNat]⟩])) = (D, .list [wdV [b]]) :: σ := by
              rw [put_head hD]
              have e3 : ((ch b : Int) + 0).toNat = ch b := by lia
              rw [e3]
              rfl
            exact e2
          | k + 1, hZ => cases hZ
        · rintro ρ₂ σ₂ rfl
          have e1 : ((ch b : Int) + 1 - (ch b : Int)).toNat = 1 := by lia
          rw [e1]
          rfl
      | i + 1, hY => cases hY
    · rintro ρ' σ' rfl
      exact ⟨_, σ, rfl, wl_cons <| we_int <| wl_nil ⟨by exact Nat.le_of_ble_eq_true rfl, h [[b]] 1 ⟨⟨by simp, by simp⟩, fun x => by simp [sem]⟩ (by simp [dd])⟩⟩
  rw [decide_eq_false k3]
  refine wss_nil ?_
  refine wss_cons <| wx_assign_comp [] [] lies_none <| we_ifexp_r (fun X σ' => ∃ parts, X = .list (parts.map Nd.t) ∧ σ' = σ ∧ PartsOf n parts) (wt_cmp <| we_name rfl <| we_tuple <| wl_cons <| we_str <| wl_cons <| we_str <| wl_nil ⟨by exact Nat.le_of_ble_eq_true rfl, in_tup (ys := [S "cat", S "alt"]) ⟨_, rfl, ?_⟩⟩) ?_
  · rw [any_nm]
    by_cases k4 : n.kd = .cat
    · rw [decide_eq_true k4]
      exact we_callK (gl_law_spread _) (kp_590 _) <| wl_cons <| we_name rfl <| wl_nil <| Wc.wp (c_spread (d := 0) n (by lia) ⟨_, rfl, rfl, parts_pair hz (.inl k4)⟩) (by show 0 + 1 ≤ n.ht + 2; lia)
    · rw [decide_eq_false k4]
      by_cases k5 : n.kd = .alt
      · rw [decide_eq_true k5]
        exact we_callK (gl_law_spread _) (kp_590 _) <| wl_cons <| we_name rfl <| wl_nil <| Wc.wp (c_spread (d := 0) n (by lia) ⟨_, rfl, rfl, parts_pair hz (.inr k5)⟩) (by show 0 + 1 ≤ n.ht + 2; lia)
      · rw [decide_eq_false k5]
        cases n with
        | empty => exact absurd rfl k1
        | never => exact absurd rfl k2
        | chars _ => exact absurd rfl k3
        | cat _ _ => exact absurd rfl k4
        | alt _ _ => exact absurd rfl k5
        | star x => exact we_list <| wl_cons <| we_sub <| we_name rfl <| we_int <| sub_tup (j := 1) rfl rfl (by decide) <| wl_nil ⟨by exact Nat.le_of_ble_eq_true rfl, [x], rfl, rfl, parts_loop (.inl rfl)⟩
        | plus x => exact we_list <| wl_cons <| we_sub <| we_name rfl <| we_int <| sub_tup (j := 1) rfl rfl (by decide) <| wl_nil ⟨by exact Nat.le_of_ble_eq_true rfl, [x], rfl, rfl, parts_loop (.inr (.inl rfl))⟩
        | opt x => exact we_list <| wl_cons <| we_sub <| we_name rfl <| we_int <| sub_tup (j := 1) rfl rfl (by decide) <| wl_nil ⟨by exact Nat.le_of_ble_eq_true rfl, [x], rfl, rfl, parts_loop (.inr (.inr (.inl rfl)))⟩
        | rep z x => exact we_list <| wl_cons <| we_sub <| we_name rfl <| we_int <| sub_tup (j := 1) rfl rfl (by decide) <| wl_nil ⟨by exact Nat.le_of_ble_eq_true rfl, [x], rfl, rfl, parts_loop (.inr (.inr (.inr ⟨z, rfl⟩)))⟩
  · rintro X σ₁ ⟨parts, rfl, rfl, hp⟩
    refine walk_map (parts.map Nd.t) (fun i acc => ∃ prs : List (List Wd × Int), acc = prs.map prV ∧ ShowsAll (parts.take i) (prs.map (·.1)) ∧ ∀ p ∈ prs, 1 + p.2 ≤ ((dd n).1 : Int)) (itr_list _ _) (by rw [List.length_map]; have := hp.len; lia) ⟨[], rfl, .nil, by simp⟩ ?_ ?_
    · rintro C D i Y acc ρ' hY ⟨prs, rfl, hs, hb⟩ _
      obtain ⟨q, hq, rfl⟩ := tds_get hY
      have hlq := hp.lt q (List.mem_of_getElem? hq)
      refine we_callK (gl_law_shown _) (kp_595 _) <| wl_cons <| we_name rfl <| wl_nil <| Wc.wp (ih q hlq.2.1 _ _ (by lia) fun ws M hw hM => ⟨rfl, prs ++ [(ws, M)], by simp [prV], ?_, ?_⟩) (by show q.ht + 3 ≤ n.ht + 2; lia)
      · rw [List.take_add_one, hq, List.map_append]
        exact hs.snoc hw
      · intro p hp'
        rcases List.mem_append.mp hp' with h | h
        · exact hb p h
        · rw [List.mem_singleton.mp h]
          show 1 + M ≤ _
          have := hlq.2.2
          lia
    rintro acc ⟨prs, rfl, hs, hb⟩
    rw [List.length_map, List.take_length] at hs
    have hlen := hs.len
    rw [List.length_map] at hlen
    have hpl := hp.len
    refine wss_cons <| wx_assign_swap (names := [S "rows", S "deep"]) rfl <| we_tuple <| wl_cons <| we_comp [] [] lies_none <| we_name rfl <| walk_map (prs.map prV) (fun i acc => acc = (prs.take i).map fun p => rowV p.1) (itr_list _ _) (by rw [List.length_map]; lia) rfl ?_ ?_
    · rintro C D i Y acc ρ' hY rfl _
      obtain ⟨p, hp', rfl⟩ := prs_get hY
      refine we_sub <| we_name rfl <| we_int <| sub_tup (j := 0) rfl rfl (by decide) ⟨rfl, ?_⟩
      rw [List.take_add_one, hp']
      simp
    rintro acc rfl
    rw [List.length_map, List.take_length]
    refine wl_cons <| we_bin <| we_int <| we_callB (gb_max _) bb_max <| wl_cons <| we_comp [] [] lies_none <| we_name rfl <| walk_map (prs.map prV) (fun i acc => acc = ((prs.take i).map (·.2)).map V.int) (itr_list _ _) (by rw [List.length_map]; lia) rfl ?_ ?_
    · rintro C D i Y acc ρ' hY rfl _
      obtain ⟨p, hp', rfl⟩ := prs_get hY
      refine we_sub <| we_name rfl <| we_int <| sub_tup (j := 1) rfl rfl (by decide) ⟨rfl, ?_⟩
      rw [List.take_add_one, hp']
      simp
    rintro acc rfl
    rw [List.length_map, List.take_length]
    refine wl_nil <| max_list' (by rw [List.length_map]; lia) fun M hM _ => add_ints <| wl_nil ⟨by exact Nat.le_of_ble_eq_true rfl, _, rfl, rfl, wb_bind <| wb_bind ?_⟩
    have hMB : 1 + M ≤ ((dd n).1 : Int) := by
      obtain ⟨p, hp', rfl⟩ := List.mem_map.mp hM
      exact hb p hp'
    generalize hD : 1 + M = D at *
    have hrows : (prs.map fun p => rowV p.1) = (prs.map (·.1)).map rowV := by rw [List.map_map]; rfl
    rw [hrows]
    generalize hrw : prs.map (·.1) = rws at *
    have hrl : rws.length ≤ 500 := by rw [← hrw, List.length_map]; lia
    have hok : ∀ r ∈ rws, r.length ≤ 4000 ∧ ∀ x ∈ r, x.length < 3 := fun r hr => ⟨Nat.le_trans (hs.ok r hr).1 (by decide), (hs.ok r hr).2⟩
    refine wss_cons <| wx_if <| wt_cmp <| we_name rfl <| we_str <| eq_strs ⟨_, rfl, ?_⟩
    rw [is_cat]
    by_cases k4 : n.kd = .cat
    · rw [decide_eq_true k4]
      refine wss_cons <| wx_return <| we_tuple <| wl_cons <| we_callK (gl_law_words _) (kp_576 _) <| wl_cons <| we_name rfl <| wl_nil <| Wc.wp (c_words (d := 0) rws (by lia) hok ?_) (by show 0 + 1 ≤ n.ht + 2; lia)
      refine wl_cons <| we_name rfl <| wl_nil ⟨by exact Nat.le_of_ble_eq_true rfl, h _ D (shows_cat ?_) hMB⟩
      have := hp.pair (.inl k4)
      rw [this, Nd.spine, k4] at hs
      exact hs
    rw [decide_eq_false k4]
    refine wss_nil ?_
    refine wss_cons <| wx_if <| wt_cmp <| we_name rfl <| we_str <| eq_strs ⟨_, rfl, ?_⟩
    rw [is_alt]
    by_cases k5 : n.kd = .alt
    · rw [decide_eq_true k5]
      have hfl : ∀ (l : List (List Wd)), (∀ r ∈ l, r.length ≤ 7) → l.flatten.length ≤ 7 * l.length := by
        intro l
        induction l with
        | nil => intro _; simp
        | cons r l ih =>
          intro hl
          have := ih fun r hr => hl r (.tail _ hr)
          have := hl r (.head _)
          rw [List.flatten_cons, List.length_append, List.length_cons]; lia
      have hf := hfl rws fun r hr => (hs.ok r hr).1
      have hV : (rws.map fun r => r.map wdV).flatten = rws.flatten.map wdV := by rw [List.map_flatten]
      have hR : rws.map rowV = (rws.map fun r => r.map wdV).map V.list := by rw [List.map_map]; rfl
      refine wss_cons <| wx_return <| we_tuple <| wl_cons <| we_callK (gl_law_words _) (kp_576 _) <| wl_cons <| we_list <| wl_cons <| we_callB (gb_sum _) bb_sum <| wl_cons <| we_name rfl <| wl_cons <| we_list <| wl_nil ⟨by exact Nat.le_of_ble_eq_true rfl, wl_nil ?_⟩
      rw [hR]
      refine sum_lists rfl (by rw [hV, List.length_map]; lia) ?_
      rw [hV]
      refine wl_nil ⟨by exact Nat.le_of_ble_eq_true rfl, wl_nil <| Wc.wp (c_words (d := 0) [rws.flatten] (by exact Nat.le_of_ble_eq_true rfl) (fun r hr => ?_) ?_) (by show 0 + 1 ≤ n.ht + 2; lia)⟩
      · rw [List.mem_singleton.mp hr]
        refine ⟨by lia, fun x hx => ?_⟩
        obtain ⟨r', hr', hx'⟩ := List.mem_flatten.mp hx
        exact (hs.ok r' hr').2 x hx'
      · refine wl_cons <| we_name rfl <| wl_nil ⟨by exact Nat.le_of_ble_eq_true rfl, h _ D (shows_alt ?_) hMB⟩
        have := hp.pair (.inr k5)
        rw [this, Nd.spine, k5] at hs
        exact hs
    rw [decide_eq_false k5]
    refine wss_nil ?_
    obtain ⟨x, hn⟩ := is_loop k1 k2 k3 k4 k5
    obtain ⟨ws, hws, hw⟩ := one_part (hp.loop x hn) hs
    clear hs hok
    subst hws
    refine wss_cons ?_
    refine' wx_assign ?ha ?hea ?hka ?hsa
    case hea => rfl
    case hka => exact .inl rfl
    case hsa => kernel_rfl
    refine' we_dictget (pl := ?pl) ?h2 ?hs2 ?he2
    case hs2 => exact ⟨rfl, rfl⟩
    case he2 => rfl
    refine we_dict3 (by decide) (by decide) (by decide) fun o ho => ⟨o, _, rfl, ho, ?_⟩
    refine wl_cons <| we_name rfl ?_
    refine wl_cons <| we_sub <| we_name rfl <| we_neg <| we_int ⟨_, rfl, ?_⟩
    refine t_back2 hn ?_
    refine wl_nil ⟨_, _, _, rfl, low_pick hn, ?_⟩
    refine wss_cons ?_
    refine' wx_assign ?hb ?heb ?hkb ?hsb
    case heb => rfl
    case hkb => exact .inl rfl
    case hsb => kernel_rfl
    refine' we_dictget (pl := ?plb) ?h3 ?hs3 ?he3
    case hs3 => exact ⟨rfl, rfl⟩
    case he3 => rfl
    refine we_dict3 (by decide) (by decide) (by decide) fun o ho => ⟨o, _, rfl, ho, ?_⟩
    refine wl_cons <| we_name rfl ?_
    refine wl_cons <| we_sub <| we_name rfl <| we_neg <| we_int ⟨_, rfl, ?_⟩
    refine t_back1 hn ?_
    refine wl_nil ⟨_, _, _, rfl, high_pick hn, ?_⟩
    have hab := lo_hi hn
    generalize ea : loN n = a at hab ⊢
    generalize eb : hiN n = b at hab ⊢
    rcases hab with ⟨rfl, rfl⟩ | ⟨rfl, rfl⟩ | ⟨rfl, rfl⟩
    · skip
      refine wss_cons <| wx_assign <| we_bin <| we_bin <| we_list <| wl_cons <| we_sub <| we_name rfl <| we_int <| sub_list (j := 0) rfl rfl (by decide) <| wl_nil ⟨by exact Nat.le_of_ble_eq_true rfl, we_name rfl <| mul_list' (by simp) (by decide) (by decide) (by exact Nat.le_of_ble_eq_true rfl) <| we_bin <| we_list <| wl_cons <| we_bin <| we_list <| wl_cons <| we_str <| wl_nil ⟨by exact Nat.le_of_ble_eq_true rfl, we_sub <| we_name rfl <| we_int <| sub_list (j := 0) rfl rfl (by decide) <| add_lists' (eps_size hw) <| wl_nil ⟨by exact Nat.le_of_ble_eq_true rfl, we_bin <| we_ifexp <| wt_cmp <| we_name rfl <| we_none <| is_none rfl ⟨_, rfl, we_name rfl <| we_name rfl <| sub_ints <| mul_list' (by simp) (by decide) (by decide) (by exact Nat.le_of_ble_eq_true rfl) <| add_lists' (by exact Nat.le_of_ble_eq_true rfl) ?_⟩⟩⟩⟩
      refine wss_cons <| wx_return <| we_tuple <| wl_cons <| we_callK (gl_law_words _) (kp_576 _) <| wl_cons <| we_slice <| we_name rfl <| we_int ⟨_, none, some ((4 : Nat) : Int), _, rfl, rfl, rfl, by exact Nat.le_of_ble_eq_true rfl, fun fz vs hr => pick_upto hr 4, wl_nil <| Wc.wp (c_words (d := 0) [[] :: ws, [] :: ws] (by exact Nat.le_of_ble_eq_true rfl) (ok2 (eps_ok hw) (eps_ok hw)) ?_) (by show 0 + 1 ≤ n.ht + 2; lia)⟩
      exact wl_cons <| we_name rfl <| wl_nil ⟨by exact Nat.le_of_ble_eq_true rfl, h _ D (shows02 hn hw ea eb) hMB⟩
    · skip
      refine wss_cons <| wx_assign <| we_bin <| we_bin <| we_list <| wl_cons <| we_sub <| we_name rfl <| we_int <| sub_list (j := 0) rfl rfl (by decide) <| wl_nil ⟨by exact Nat.le_of_ble_eq_true rfl, we_name rfl <| mul_list' (by simp) (by decide) (by decide) (by exact Nat.le_of_ble_eq_true rfl) <| we_bin <| we_list <| wl_cons <| we_bin <| we_list <| wl_cons <| we_str <| wl_nil ⟨by exact Nat.le_of_ble_eq_true rfl, we_sub <| we_name rfl <| we_int <| sub_list (j := 0) rfl rfl (by decide) <| add_lists' (eps_size hw) <| wl_nil ⟨by exact Nat.le_of_ble_eq_true rfl, we_bin <| we_ifexp <| wt_cmp <| we_name rfl <| we_none <| is_none rfl ⟨_, rfl, we_name rfl <| we_name rfl <| sub_ints <| mul_list' (by simp) (by decide) (by decide) (by exact Nat.le_of_ble_eq_true rfl) <| add_lists' (by exact Nat.le_of_ble_eq_true rfl) ?_⟩⟩⟩⟩
      refine wss_cons <| wx_return <| we_tuple <| wl_cons <| we_callK (gl_law_words _) (kp_576 _) <| wl_cons <| we_slice <| we_name rfl <| we_int ⟨_, none, some ((4 : Nat) : Int), _, rfl, rfl, rfl, by exact Nat.le_of_ble_eq_true rfl, fun fz vs hr => pick_upto hr 4, wl_nil <| Wc.wp (c_words (d := 0) [[] :: ws] (by exact Nat.le_of_ble_eq_true rfl) (ok1 (eps_ok hw)) ?_) (by show 0 + 1 ≤ n.ht + 2; lia)⟩
      exact wl_cons <| we_name rfl <| wl_nil ⟨by exact Nat.le_of_ble_eq_true rfl, h _ D (shows01 hn hw ea eb) hMB⟩
    · skip
      refine wss_cons <| wx_assign <| we_bin <| we_bin <| we_list <| wl_cons <| we_sub <| we_name rfl <| we_int <| sub_list (j := 0) rfl rfl (by decide) <| wl_nil ⟨by exact Nat.le_of_ble_eq_true rfl, we_name rfl <| mul_list' (by simp) (by decide) (by decide) (by exact Nat.le_of_ble_eq_true rfl) <| we_bin <| we_list <| wl_cons <| we_bin <| we_list <| wl_cons <| we_str <| wl_nil ⟨by exact Nat.le_of_ble_eq_true rfl, we_sub <| we_name rfl <| we_int <| sub_list (j := 0) rfl rfl (by decide) <| add_lists' (eps_size hw) <| wl_nil ⟨by exact Nat.le_of_ble_eq_true rfl, we_bin <| we_ifexp <| wt_cmp <| we_name rfl <| we_none <| is_none rfl ⟨_, rfl, we_name rfl <| we_name rfl <| sub_ints <| mul_list' (by simp) (by decide) (by decide) (by exact Nat.le_of_ble_eq_true rfl) <| add_lists' (by exact Nat.le_of_ble_eq_true rfl) ?_⟩⟩⟩⟩
      refine wss_cons <| wx_return <| we_tuple <| wl_cons <| we_callK (gl_law_words _) (kp_576 _) <| wl_cons <| we_slice <| we_name rfl <| we_int ⟨_, none, some ((4 : Nat) : Int), _, rfl, rfl, rfl, by exact Nat.le_of_ble_eq_true rfl, fun fz vs hr => pick_upto hr 4, wl_nil <| Wc.wp (c_words (d := 0) [ws, [] :: ws] (by exact Nat.le_of_ble_eq_true rfl) (ok2 (ws_ok hw) (eps_ok hw)) ?_) (by show 0 + 1 ≤ n.ht + 2; lia)⟩
      exact wl_cons <| we_name rfl <| wl_nil ⟨by exact Nat.le_of_ble_eq_true rfl, h _ D (shows12 hn hw ea eb) hMB⟩
theorem c_shown {g : G} : ∀ n : Nd, ShownAt g n := by
  have all : ∀ k, ∀ n : Nd, n.size < k → ShownAt g n := by
    intro k
    induction k with
    | zero => intro n h; exact absurd h (Nat.not_lt_zero _)
    | succ k ih => intro n hn; exact shown_step n fun p hp => ih p (by lia)
  exact fun n => all (n.size + 1) n (Nat.lt_succ_self _)
-- X11
def trV : Option Nd → V
  | none => .none
  | some t => t.v
def patV (n : Nd) (tr : Option Nd) : V := .inst 520 [(S "body", n.v), (S "begins", .bool false), (S "trail", trV tr)]
def withTr (m : Nd) : Option Nd → Nd
  | none => m
  | some t => .cat m t
theorem trV_plain (tr : Option Nd) : (trV tr).plain = true := by cases tr with
  | none => rfl
  | some t => exact t.plain
theorem trV_none (tr : Option Nd) : (trV tr).isNone = tr.isNone := by cases tr with
  | none => rfl
  | some t => cases t <;> rfl
theorem c_matched {g : G} {σ : Store} {d : Nat} (n : Nd) (tr : Option Nd) (hz : n.size ≤ 2 ^ 10) {Q : V → Store → Prop} (h : ∀ m, Bare n m → Q (withTr m tr).v σ) : Wc g (3 * n.size + 8 + d + 1) (.ref 550) σ [patV n tr] Q := by
  refine' wc_def (d := 3 * n.size + 8 + d) [S "pattern"] ?ho ?hcd ?hb ?hl ?h ?c1 ?c2 ?c3 ?c4
  walk_at "DEF"
  intro L
  refine wss_cons <| wx_assign <| we_callK (gl_without_empty _) (kp_543 _) <| wl_cons <| we_attr <| we_name rfl <| ga_own (o := none) rfl n.plain (by k_is) (by k_is) (by k_is) rfl <| wl_nil <| Wc.wp (c_we n _ _ hz fun m hm => ?_) (by show 3 * n.size + 8 ≤ 3 * n.size + 8 + d; lia)
  refine wss_cons <| wx_if <| wt_cmp <| we_attr <| we_name rfl <| ga_own (o := none) rfl (trV_plain tr) (by k_is) (by k_is) (by k_is) rfl <| we_none <| is_none (trV_plain tr) ⟨_, rfl, ?_⟩
  rw [trV_none]
  cases tr with
  | none => exact wss_cons <| wx_return <| we_name rfl <| h m hm
  | some t =>
    refine wss_nil ?_
    exact wss_cons <| wx_return <| we_callK (gl_Cat _) (kp_352 _) <| wl_cons <| we_name rfl <| wl_cons <| we_attr <| we_name rfl <| ga_own (o := none) rfl t.plain (by k_is) (by k_is) (by k_is) rfl <| wl_nil <| Wc.wp (new_Cat (h m hm)) (by show 3 ≤ 3 * n.size + 8 + d; lia)
-- Y6
/-! ## what the law builds -/
inductive Item : Nd → List Wd → Prop
  | part {n : Nd} {ws : List Wd} : PartOf n ws → Item n ws
  | letter (b : Bool) : Item (.chars b) [[b]]
theorem shows_chars (b : Bool) : Shows (.chars b) [[b]] := ⟨⟨by simp, by simp⟩, fun x => by simp [sem]⟩
theorem PartOf.shows {n : Nd} {ws : List Wd} (h : PartOf n ws) : Shows n ws := by
  cases h with
  | w0 b => exact ⟨⟨by simp, by simp⟩, fun x => by simp [sem]⟩
  | w1 b => exact shows_star (shows_chars b)
  | w2 b => exact shows_rep0 (shows_chars b)
  | w3 b => exact ⟨⟨by simp, by simp⟩, fun x => by simp [sem, or_comm]⟩
  | w4 b => exact ⟨⟨by simp, by simp⟩, fun x => by simp [sem]⟩
  | w5 b e =>
    refine ⟨wordsB_good _, fun x => ?_⟩
    rw [wordsB_mem]
    simp only [Prod, sem, List.mem_cons, List.not_mem_nil, or_false]
    constructor
    · rintro ⟨hl, o, ho, y, ⟨p, hp, z, ⟨q, hq, t, rfl, rfl⟩, rfl⟩, rfl⟩
      refine .inr ⟨hl, o, p ++ (q ++ []), rfl, ho, ?_, p, q, by simp, hp, hq⟩
      simp only [List.length_append] at hl ⊢; lia
    · rintro (rfl | ⟨hl, u, v, rfl, hu, hv, p, q, rfl, hp, hq⟩)
      · exact ⟨by decide, [], .inl rfl, [], ⟨[], .inl rfl, [], ⟨[], .inl rfl, [], rfl, rfl⟩, rfl⟩, rfl⟩
      · exact ⟨hl, u, hu, p ++ q, ⟨p, hp, q, ⟨q, hq, [], rfl, by simp⟩, rfl⟩, rfl⟩
theorem PartOf.can {n : Nd} {ws : List Wd} (h : PartOf n ws) : canE n = true := by cases h <;> rfl
theorem PartOf.notCat {n : Nd} {ws : List Wd} (h : PartOf n ws) : n.kd ≠ .cat := by cases h <;> exact fun e => Kd.noConfusion e
theorem Item.shows {n : Nd} {ws : List Wd} (h : Item n ws) : Shows n ws := by
  cases h with
  | part h => exact h.shows
  | letter b => exact shows_chars b
theorem Item.small {n : Nd} {ws : List Wd} (h : Item n ws) : Small n := by
  cases h with
  | part h => exact h.small
  | letter b => exact small_chars b
/-- the choice's spine, of one item -/
theorem Item.smallSpine {n : Nd} {ws : List Wd} (h : Item n ws) : ∀ p ∈ spineK .alt n, Small p := by
  intro p hp
  have two : ∀ {a b : Nd}, Small a → Small b → spineK .alt n = [a, b] → Small p := fun ha hb e => by
    rw [e] at hp
    rcases List.mem_cons.mp hp with rfl | hp
    · exact ha
    · rw [List.mem_singleton.mp hp]; exact hb
  have one : spineK .alt n = [n] → Small p := fun e => by
    rw [e] at hp
    rw [List.mem_singleton.mp hp]; exact h.small
  cases h with
  | letter b => exact one rfl
  | part h => cases h with
    | w0 b => exact one rfl
    | w1 b => exact one rfl
    | w2 b => exact one rfl
    | w3 b => exact two (small_chars b) small_empty (by simp [spineK])
    | w4 b => exact two small_empty (small_chars b) (by simp [spineK])
    | w5 b e => exact one rfl
theorem size_catF : ∀ (ps : List Nd) (p : Nd), (ps.foldl .cat p).size = p.size + psum ps + ps.length
  | [], p => by simp [psum]
  | q :: ps, p => by
    rw [List.foldl_cons, size_catF ps]
    simp only [Nd.size, psum, List.map_cons, List.sum_cons, List.length_cons]; lia
theorem size_altF : ∀ (ps : List Nd) (p : Nd), (ps.foldl .alt p).size = p.size + psum ps + ps.length
  | [], p => by simp [psum]
  | q :: ps, p => by
    rw [List.foldl_cons, size_altF ps]
    simp only [Nd.size, psum, List.map_cons, List.sum_cons, List.length_cons]; lia
theorem psum_le : ∀ (ps : List Nd), (∀ p ∈ ps, Small p) → psum ps ≤ 6 * ps.length
  | [], _ => by simp [psum]
  | p :: ps, h => by
    have a := (h p (.head _)).size
    have b := psum_le ps fun q hq => h q (.tail _ hq)
    simp only [psum, List.map_cons, List.sum_cons, List.length_cons] at b ⊢; lia
theorem kd_catF : ∀ (ps : List Nd) (p : Nd), ps ≠ [] → (ps.foldl .cat p).kd = .cat
  | [], _, h => absurd rfl h
  | [q], p, _ => rfl
  | q :: r :: ps, p, _ => by rw [List.foldl_cons]; exact kd_catF (r :: ps) _ (by simp)
theorem kd_altF : ∀ (ps : List Nd) (p : Nd), ps ≠ [] → (ps.foldl .alt p).kd = .alt
  | [], _, h => absurd rfl h
  | [q], p, _ => rfl
  | q :: r :: ps, p, _ => by rw [List.foldl_cons]; exact kd_altF (r :: ps) _ (by simp)
theorem spine_catF : ∀ (ps : List Nd) (p : Nd), spineK .cat (ps.foldl .cat p) = spineK .cat p ++ ps
  | [], p => by simp
  | q :: ps, p => by rw [List.foldl_cons, spine_catF ps]; simp [spineK]
theorem spine_altF : ∀ (ps : List Nd) (p : Nd), spineK .alt (ps.foldl .alt p) = spineK .alt p ++ ps
  | [], p => by simp
  | q :: ps, p => by rw [List.foldl_cons, spine_altF ps]; simp [spineK]
theorem spineK_off {k : Kd} {n : Nd} (h : n.kd ≠ k) : spineK k n = [n] := by
  cases n <;> first | rfl | skip
  · simp only [spineK]; rw [if_neg fun e => h e.symm]
  · simp only [spineK]; rw [if_neg fun e => h e.symm]

/-- what the drawing gave -/
structure Built (row : Bool) (prs : List (Nd × List Wd)) : Prop where
  items : ∀ p ∈ prs, Item p.1 p.2
  parts : row = true → ∀ p ∈ prs, PartOf p.1 p.2
  first : ∀ p, prs[0]? = some p → PartOf p.1 p.2
  pos : 1 ≤ prs.length
  few : prs.length ≤ 24
def nodeOf (row : Bool) (prs : List (Nd × List Wd)) : Nd := if row then catA (prs.map (·.1)) else altA (prs.map (·.1))
def wordsOf (row : Bool) (prs : List (Nd × List Wd)) : List Wd := if row then wordsB (prs.map (·.2)) else wordsB [(prs.map (·.2)).flatten]
def dueOf (row : Bool) (prs : List (Nd × List Wd)) : List Wd := (wordsOf row prs).filter fun w => decide (w ≠ [])
theorem Built.showsAll {prs : List (Nd × List Wd)} (h : ∀ p ∈ prs, Item p.1 p.2) : ShowsAll (prs.map (·.1)) (prs.map (·.2)) := by
  induction prs with
  | nil => exact .nil
  | cons p prs ih => exact .cons (h p (.head _)).shows (ih fun q hq => h q (.tail _ hq))
section
variable {row : Bool} {prs : List (Nd × List Wd)}
theorem Built.all {B : Built row prs} : ∀ p ∈ prs.map (·.1), Small p := by
  intro p hp
  obtain ⟨q, hq, rfl⟩ := List.mem_map.mp hp
  exact (B.items q hq).small
theorem Built.size (B : Built row prs) : (nodeOf row prs).size ≤ 168 := by
  have hs := psum_le _ B.all
  have h1 := B.few
  have h2 := B.pos
  obtain ⟨p, ps, e⟩ : ∃ p ps, prs.map (·.1) = p :: ps := by
    cases prs with
    | nil => simp at h2
    | cons q r => exact ⟨_, _, rfl⟩
  have hl : (prs.map (·.1)).length = prs.length := List.length_map _
  unfold nodeOf
  rw [e] at hs hl ⊢
  simp only [psum, List.map_cons, List.sum_cons, List.length_cons] at hs hl
  have e1 := size_catF ps p
  have e2 := size_altF ps p
  simp only [psum] at e1 e2
  split
  · show (ps.foldl .cat p).size ≤ 168
    lia
  · show (ps.foldl .alt p).size ≤ 168
    lia
theorem Built.can (B : Built row prs) : canE (nodeOf row prs) = true := by
  have h2 := B.pos
  unfold nodeOf
  rw [canE_sem]
  split
  · rename_i hr
    have hp := B.parts hr
    cases prs with
    | nil => simp at h2
    | cons q r =>
      rw [List.map_cons, sem_catA _ _ _ (by decide)]
      refine row_nil _ fun p hp' => ?_
      obtain ⟨q', hq, rfl⟩ := List.mem_map.mp (show p ∈ (q :: r).map (·.1) from hp')
      exact (hp q' hq).can
  · cases prs with
    | nil => simp at h2
    | cons q r =>
      rw [sem_altA]
      exact ⟨q.1, by simp, (canE_sem _).mp (B.first q rfl).can⟩
theorem Built.sem (B : Built row prs) (x : Wd) : x ∈ wordsOf row prs ↔ sem (nodeOf row prs) x := by
  have S := Built.showsAll B.items
  unfold wordsOf nodeOf
  cases row with
  | true =>
    simp only [if_true]
    rw [wordsB_mem, S.prod]
    have h2 := B.pos
    cases prs with
    | nil => simp at h2
    | cons q r =>
      constructor
      · exact fun ⟨a, b⟩ => (sem_catA _ _ x a).mpr b
      · exact fun h => have a := sem_short _ _ h; ⟨a, (sem_catA _ _ x a).mp h⟩
  | false =>
    simp only [Bool.false_eq_true, if_false]
    rw [wordsB_mem, prod_one, S.union, sem_altA]
    constructor
    · exact fun h => h.2
    · exact fun h => ⟨let ⟨p, _, hs⟩ := h; sem_short p x hs, h⟩
theorem words_good (row : Bool) (prs : List (Nd × List Wd)) : GoodWs (wordsOf row prs) := by
  unfold wordsOf; split <;> exact wordsB_good _
theorem due_good (row : Bool) (prs : List (Nd × List Wd)) : GoodWs (dueOf row prs) :=
  ⟨(words_good row prs).nodup.filter _, fun x hx => (words_good row prs).short x (List.mem_filter.mp hx).1⟩
/-- the words that are due are those of the bare node -/
theorem Built.due (B : Built row prs) {m : Nd} {ws : List Wd} (hb : Bare (nodeOf row prs) m) (hw : Shows m ws) : ws.Perm (dueOf row prs) := by
  refine (List.perm_ext_iff_of_nodup hw.good.nodup (due_good row prs).nodup).mpr fun x => ?_
  rw [hw.mem, hb.sem, ← B.sem]
  unfold dueOf
  rw [List.mem_filter, decide_eq_true_iff]
theorem bareAll_len {as bs : List Nd} (h : BareAll as bs) : bs.length = as.length := h.len
theorem Built.one (B : Built row prs) (h1 : prs.length = 1) : ∃ n ws, PartOf n ws ∧ nodeOf row prs = n := by
  obtain ⟨q, rfl⟩ := List.length_eq_one_iff.mp h1
  refine ⟨q.1, q.2, B.first q rfl, ?_⟩
  unfold nodeOf
  split <;> rfl
theorem Built.deepRow {prs : List (Nd × List Wd)} (B : Built true prs) {m : Nd} (hb : Bare (nodeOf true prs) m) (h : Nat) (hh : prs.length ≤ 2 ^ h) : (dd m).1 ≤ 4 + 2 * h := by
  by_cases h1 : prs.length = 1
  · obtain ⟨n, ws, hp, e⟩ := B.one h1
    rw [e] at hb
    have := hp.small.bare m hb; lia
  · have h2 := B.pos
    have hc := B.can
    have hall := B.all
    have hp := B.parts rfl
    cases prs with
    | nil => simp at h2
    | cons q r =>
      have hne : r.map (·.1) ≠ [] := by
        intro e
        simp only [List.map_eq_nil_iff] at e
        subst e; exact h1 rfl
      have hk : (nodeOf true (q :: r)).kd = .cat := kd_catF _ _ hne
      have hs : (nodeOf true (q :: r)).spine = (q :: r).map (·.1) := by
        show spineK _ (nodeOf true (q :: r)) = _
        rw [hk]
        show spineK .cat ((r.map (·.1)).foldl .cat q.1) = _
        rw [spine_catF, spineK_off (hp q (.head _)).notCat]
        rfl
      have hr := bare_cat hk hc hb
      rw [hs] at hr
      exact row_deep h _ m (by rw [List.length_map]; exact hh) hall hr
theorem Built.alt {prs : List (Nd × List Wd)} (B : Built false prs) {m : Nd} (hb : Bare (nodeOf false prs) m) : (dd m).1 ≤ 5 ∧ prs.length ≤ m.spine.length := by
  by_cases h1 : prs.length = 1
  · obtain ⟨n, ws, hp, e⟩ := B.one h1
    rw [e] at hb
    have := hp.small.bare m hb
    have := spineK_pos (k := m.kd) m
    exact ⟨by lia, by rw [h1]; exact this⟩
  · have h2 := B.pos
    have hc := B.can
    have hall := B.all
    cases prs with
    | nil => simp at h2
    | cons q r =>
      have hne : r.map (·.1) ≠ [] := by
        intro e
        simp only [List.map_eq_nil_iff] at e
        subst e; exact h1 rfl
      have hk : (nodeOf false (q :: r)).kd = .alt := kd_altF _ _ hne
      have hs : (nodeOf false (q :: r)).spine = spineK .alt q.1 ++ r.map (·.1) := by
        show spineK _ (nodeOf false (q :: r)) = _
        rw [hk]
        exact spine_altF _ _
      obtain ⟨ms, hms, rfl⟩ := bare_alt hk hc hb
      rw [hs] at hms
      have hsm : ∀ p ∈ spineK .alt q.1 ++ r.map (·.1), Small p := fun p hp => by
        rcases List.mem_append.mp hp with hp | hp
        · exact (B.items q (.head _)).smallSpine p hp
        · exact hall p (.tail _ hp)
      refine ⟨dd_altA ms 4 (hms.deep hsm), ?_⟩
      have hl := hms.len
      have hp1 := spineK_pos (k := .alt) q.1
      rw [List.length_append, List.length_map] at hl
      rw [List.length_cons] at h1 ⊢
      cases ms with
      | nil => simp only [List.length_nil] at hl; lia
      | cons a as =>
        rw [List.length_cons] at hl
        have hne' : as ≠ [] := fun e => by
          rw [e] at hl
          simp only [List.length_nil] at hl; lia
        have e : (altA (a :: as)).spine = spineK .alt a ++ as := by
          show spineK (as.foldl .alt a).kd (as.foldl .alt a) = _
          rw [kd_altF _ _ hne', spine_altF]
        have := spineK_pos (k := .alt) a
        rw [e, List.length_append]; lia
end
-- Y7
/-! ## two sorted lists of the same texts -/
theorem rising_pair : ∀ (l : List Str) (p : Str), risingS p l = true → (p :: l).Pairwise fun a b => ¬ b.cps.toList < a.cps.toList
  | [], p, _ => by simp
  | x :: r, p, h => by
    have h' : (!ltCps x.cps.toList p.cps.toList && risingS x r) = true := h
    rw [Bool.and_eq_true, ltCps_eq] at h'
    have ih := rising_pair r x h'.2
    have h1 : ¬ x.cps.toList < p.cps.toList := by simpa using h'.1
    refine List.pairwise_cons.mpr ⟨fun y hy => ?_, ih⟩
    rcases List.mem_cons.mp hy with rfl | hy
    · exact h1
    · exact List.le_trans h1 ((List.pairwise_cons.mp ih).1 y hy)
theorem sorted_pair : ∀ (l : List Str), sortedS l = true → l.Pairwise fun a b => ¬ b.cps.toList < a.cps.toList
  | [], _ => .nil
  | x :: r, h => rising_pair r x h
theorem sorted_eq {l m : List Str} (h : sortedS l = true) (k : sortedS m = true) (hp : l.Perm m) : l = m :=
  List.Perm.eq_of_pairwise (fun a b _ _ h1 h2 => by
    have e : a.cps.toList = b.cps.toList := List.le_antisymm h1 h2
    cases a; cases b
    simp only [Str.mk.injEq]
    exact Array.toList_inj.mp e) (sorted_pair l h) (sorted_pair m k) hp
/-! ## told values are data -/
theorem nm_ok (k : Kd) : PyData.strOk k.nm = true := by cases k <;> decide +kernel
theorem dat_t : ∀ n : Nd, ∃ d, Dat n.t d ∧ d.depth ≤ n.ht + 2
  | .empty => ⟨_, .tup (.cons (.str (nm_ok .empty)) .nil), by simp [PyData.depth, PyData.depthAll]⟩
  | .never => ⟨_, .tup (.cons (.str (nm_ok .never)) .nil), by simp [PyData.depth, PyData.depthAll]⟩
  | .chars b => ⟨_, .tup (.cons (.str (nm_ok .chars)) (.cons (.tup (.cons (.tup (.cons .int (.cons .int .nil))) .nil)) .nil)), by simp [PyData.depth, PyData.depthAll, Nd.ht]⟩
  | .cat l r => by
    obtain ⟨a, ha, la⟩ := dat_t l
    obtain ⟨b, hb, lb⟩ := dat_t r
    exact ⟨_, .tup (.cons (.str (nm_ok .cat)) (.cons ha (.cons hb .nil))), by simp only [PyData.depth, PyData.depthAll, Nd.ht]; lia⟩
  | .alt l r => by
    obtain ⟨a, ha, la⟩ := dat_t l
    obtain ⟨b, hb, lb⟩ := dat_t r
    exact ⟨_, .tup (.cons (.str (nm_ok .alt)) (.cons ha (.cons hb .nil))), by simp only [PyData.depth, PyData.depthAll, Nd.ht]; lia⟩
  | .star x => by obtain ⟨a, ha, la⟩ := dat_t x; exact ⟨_, .tup (.cons (.str (nm_ok .star)) (.cons ha .nil)), by simp only [PyData.depth, PyData.depthAll, Nd.ht]; lia⟩
  | .plus x => by obtain ⟨a, ha, la⟩ := dat_t x; exact ⟨_, .tup (.cons (.str (nm_ok .plus)) (.cons ha .nil)), by simp only [PyData.depth, PyData.depthAll, Nd.ht]; lia⟩
  | .opt x => by obtain ⟨a, ha, la⟩ := dat_t x; exact ⟨_, .tup (.cons (.str (nm_ok .opt)) (.cons ha .nil)), by simp only [PyData.depth, PyData.depthAll, Nd.ht]; lia⟩
  | .rep z x => by obtain ⟨a, ha, la⟩ := dat_t x; exact ⟨_, .tup (.cons (.str (nm_ok .rep)) (.cons ha (.cons .int (.cons .int .nil)))), by simp only [PyData.depth, PyData.depthAll, Nd.ht]; lia⟩
theorem ch_lt (b : Bool) : ch b < 0x110000 := by cases b <;> decide
theorem wd_ok (w : Wd) : PyData.strOk (wd w) = true := by
  show (wd w).cps.all (· < 0x110000) = true
  rw [Array.all_eq_true']
  intro x hx
  have hx : x ∈ (w.map ch).toArray := hx
  rw [List.mem_toArray] at hx
  obtain ⟨b, _, rfl⟩ := List.mem_map.mp hx
  exact decide_eq_true (ch_lt b)
theorem dats_strs : ∀ ss : List Str, (∀ x ∈ ss, PyData.strOk x = true) → Dats (ss.map V.str) (ss.map .str)
  | [], _ => .nil
  | x :: r, h => .cons (.str (h x (.head _))) (dats_strs r fun y hy => h y (.tail _ hy))
theorem depth_strs : ∀ ss : List Str, PyData.depthAll (ss.map .str) = 0
  | [] => rfl
  | x :: r => by simp only [List.map_cons, PyData.depthAll, PyData.depth, depth_strs r]; rfl
section
variable {g : G} {c : Cfg} {ρ : Env₁} {σ : Store}
theorem sorted_row {ws : List Wd} {Q : V → Store → Prop} (hz : ws.length ≤ 7) (h : ∀ ss : List Str, ss.Perm (ws.map wd) → sortedS ss = true → Q (.list (ss.map V.str)) σ) : Wp g c ρ σ [rowV ws] Rep (fun vs => call (.builtin "sorted") vs) Q := by
  have e : rowV ws = .list ((ws.map wd).map V.str) := by rw [List.map_map]; rfl
  rw [e]
  exact sorted_strs' (by rw [List.length_map]; lia) h
/-- two sorted lists of the same words differ in nothing -/
theorem ne_sorted {ws us : List Wd} {ss ts : List Str} {Q : V → Store → Prop} (hp : ws.Perm us) (h1 : ss.Perm (ws.map wd)) (k1 : sortedS ss = true) (h2 : ts.Perm (us.map wd)) (k2 : sortedS ts = true) (hd : 1 ≤ c.d) (h : Q (.bool false) σ) :
    Wp g c ρ σ [.list (ss.map V.str), .list (ts.map V.str)] Rep (op2 (compareOp .NotEq)) Q := by
  have e : ss = ts := sorted_eq k1 k2 (h1.trans ((hp.map wd).trans h2.symm))
  subst e
  refine ne_same (.list (dats_strs ss fun x hx => ?_)) ?_ h
  · obtain ⟨w, _, rfl⟩ := List.mem_map.mp (h1.mem_iff.mp hx)
    exact wd_ok w
  · simp only [PyData.depth, depth_strs]; lia
theorem eq_told {n : Nd} {Q : V → Store → Prop} (hz : n.ht + 2 ≤ 8 * c.d) (h : Q (.bool true) σ) : Wp g c ρ σ [n.t, n.t] Rep (op2 (compareOp .Eq)) Q :=
  let ⟨_, hd, hl⟩ := dat_t n
  eq_same hd (Nat.le_trans hl hz) h
theorem ne_told {n : Nd} {Q : V → Store → Prop} (hz : n.ht + 2 ≤ 8 * c.d) (h : Q (.bool false) σ) : Wp g c ρ σ [n.t, n.t] Rep (op2 (compareOp .NotEq)) Q :=
  let ⟨_, hd, hl⟩ := dat_t n
  ne_same hd (Nat.le_trans hl hz) h
end
theorem ne_eps (w : Wd) : (wd w != S "") = decide (w ≠ []) := by
  cases w with
  | nil => decide +kernel
  | cons a w =>
    have h : wd (a :: w) ≠ S "" := fun e => by
      have h0 : (S "").length = 0 := by decide +kernel
      have := congrArg Str.length e
      rw [wd_len, h0] at this
      simp at this
    rw [bne_iff_ne.mpr h]
    simp
theorem ndV_get {prs : List (Nd × List Wd)} {i : Nat} {Y : V} (h : (prs.map fun p => V.tup [p.1.v, rowV p.2])[i]? = some Y) : ∃ p, prs[i]? = some p ∧ Y = .tup [p.1.v, rowV p.2] := by
  rw [List.getElem?_map] at h
  cases hp : prs[i]? with
  | none => rw [hp] at h; cases h
  | some p => rw [hp] at h; exact ⟨p, rfl, (Option.some.inj h).symm⟩
theorem row_get {ws : List Wd} {i : Nat} {Y : V} (h : (ws.map wdV)[i]? = some Y) : ∃ w, ws[i]? = some w ∧ Y = wdV w := by
  rw [List.getElem?_map] at h
  cases hp : ws[i]? with
  | none => rw [hp] at h; cases h
  | some p => rw [hp] at h; exact ⟨p, rfl, (Option.some.inj h).symm⟩
-- X12
theorem c_we0 {g : G} {σ : Store} {d : Nat} (m : Nd) (hc : canE m = false) (hz : m.ht ≤ 2 ^ 20) {Q : V → Store → Prop} (h : Q m.v σ) : Wc g (m.ht + 4 + d + 1) (.ref 543) σ [m.v] Q := by
  refine' wc_def (d := m.ht + 4 + d) [S "node"] ?ho ?hcd ?hb ?hl ?h ?c1 ?c2 ?c3 ?c4
  walk_at "DEF"
  intro L
  refine wss_cons <| wx_if <| wt_not <| wt_val rfl <| we_callK (gl_can_be_empty _) (kp_531 _) <| wl_cons <| we_name rfl <| wl_nil <| Wc.wp (c_can m _ _ hz ⟨_, rfl, ?_⟩) (by show m.ht + 4 ≤ m.ht + 4 + d; lia)
  rw [hc]
  exact wss_cons <| wx_return <| we_name rfl h
def ndV (p : Nd × List Wd) : V := .tup [p.1.v, rowV p.2]
theorem Pen.le {a : Addr} {K K' : Nat} {σ : Store} (h : Pen a K σ) (hk : K' ≤ K) : Pen a K' σ := let ⟨n, j, a1, a2, a3, a4⟩ := h; ⟨n, j, a1, a2, a3, by lia⟩
theorem lookup_mem {σ : Store} {a : Addr} {x : Cel} (h : σ.lookup a = some x) : a ∈ σ.map (·.1) := by
  induction σ with
  | nil => cases h
  | cons p r ih =>
    rw [List.lookup_cons] at h
    split at h
    · rename_i e; rw [beq_iff_eq.mp e]; simp
    · exact List.mem_cons_of_mem _ (ih h)
theorem Pen.cons {a D : Addr} {x : Cel} {K : Nat} {σ : Store} (h : Pen a K σ) (hne : a ≠ D) : Pen a K ((D, x) :: σ) := by
  obtain ⟨n, j, a1, r⟩ := h
  exact ⟨n, j, by rw [List.lookup_cons, beq_eq_false_iff_ne.mpr hne]; exact a1, r⟩
theorem Pen.tail {a D : Addr} {x : Cel} {K : Nat} {σ : Store} (h : Pen a K ((D, x) :: σ)) (hne : a ≠ D) : Pen a K σ := by
  obtain ⟨n, j, a1, r⟩ := h
  rw [List.lookup_cons, beq_eq_false_iff_ne.mpr hne] at a1
  exact ⟨n, j, a1, r⟩
theorem Turned.cons {a D : Addr} {x : Cel} {σ τ : Store} (h : Turned a ((D, x) :: σ) τ) (hne : a ≠ D) : ∃ r, τ = (D, x) :: r ∧ Turned a σ r := by
  have key : ∀ Z, put τ a Z = (D, x) :: put σ a Z := fun Z => by rw [h Z]; simp [put, Ne.symm hne]
  cases τ with
  | nil => exact absurd (key x) (by simp [put])
  | cons p r =>
    have e := key x
    simp only [put, List.map_cons, List.cons.injEq] at e
    have hp : p = (D, x) := by
      by_cases hpa : p.1 = a
      · rw [if_pos hpa] at e; exact absurd (congrArg Prod.fst e.1) hne
      · rw [if_neg hpa] at e; exact e.1
    subst hp
    refine ⟨r, rfl, fun Z => ?_⟩
    have e := key Z
    simp only [put, List.map_cons, List.cons.injEq] at e
    exact e.2
/-- what the drawing of the parts keeps -/
structure Drawn (a : Addr) (σ₀ : Store) (row : Bool) (i : Nat) (acc : List V) (σ : Store) : Prop where
  pen : Pen a (8000 - 10 * i) σ
  addr : σ.map (·.1) = σ₀.map (·.1)
  prs : ∃ prs : List (Nd × List Wd), acc = prs.map ndV ∧ prs.length = i ∧ (∀ p ∈ prs, Item p.1 p.2) ∧ (row = true → ∀ p ∈ prs, PartOf p.1 p.2) ∧ ∀ p, prs[0]? = some p → PartOf p.1 p.2
theorem dle {a k : Nat} (h : a ≤ 170) (hk : Nat.ble (170 + k) 600 = true := by rfl) : a + k ≤ 600 := Nat.le_trans (Nat.add_le_add_right h k) (Nat.le_of_ble_eq_true hk)
theorem d20 {a : Nat} (h : a ≤ 170) : a ≤ 2 ^ 20 := Nat.le_trans h (by decide)
theorem d8 {a : Nat} (h : a ≤ 170) : a + 2 ≤ 8 * 600 := Nat.le_trans (Nat.add_le_add_right h 2) (by decide)
/-- what stands at the law's own place -/
def LawAt (P : Params) (Φ : Str → Scope → List Stmt → Prop) : Prop := ∀ o, (hd.heap_1 P).lookup 607 = some o → match o.data with
  | .func f => (match f.body with | .stmts b => Φ f.qualname f.scope b | _ => False)
  | _ => False
theorem lawAt_of {P : Params} {Φ : Str → Scope → List Stmt → Prop} {name qual : Str} {params : Arguments} {body : List Stmt} {scope : Scope} {dV kV doc pm cdv ct ocl : Value} {an od : Option Addr} {osl : Array (Option Value)}
    (ho : (hd.heap_1 P).lookup 607 = some ⟨ocl, od, .func (fnOf name qual params body scope dV kV doc pm an cdv ct), osl⟩) (h : Φ qual scope body) : LawAt P Φ := by
  intro o e
  rw [ho] at e
  cases e
  exact h
theorem lawAt_to {P : Params} {Φ : Str → Scope → List Stmt → Prop} {name qual : Str} {params : Arguments} {body : List Stmt} {scope : Scope} {dV kV doc pm cdv ct ocl : Value} {an od : Option Addr} {osl : Array (Option Value)}
    (h : LawAt P Φ) (ho : (hd.heap_1 P).lookup 607 = some ⟨ocl, od, .func (fnOf name qual params body scope dV kV doc pm an cdv ct), osl⟩) : Φ qual scope body := h _ ho
theorem c_lawAt {g : G} (hz : g.svs.length ≤ 2 ^ 24) : LawAt g.w.params fun name scope body => ∀ (L f : Addr) (cd : Value), Wss g ⟨600, envOfC name scope L f cd, envOfC name scope L f cd⟩ [(S "script", .raw (.ref g.scr))] [] body fun fl _ _ => (match fl with | .ret X => X | _ => .none) = .bool true := by
  refine' lawAt_of ?ho ?hh
  case ho => k_is
  intro L f cd
  refine wss_cons <| wx_assign (hk := .inr ⟨rfl, rfl, by simp [cellsFrom, envOfC]⟩) <| we_callK (gl_law_pen _) (kp_557 _) <| wl_cons <| we_name rfl <| wl_nil <| Wc.wp (c_pen (d := 0) hz fun a N ha hN => ?_) (by exact Nat.le_of_ble_eq_true rfl)
  have P₀ : Pen a 9000 ((a, .arr [.int N, .int 0]) :: []) := ⟨N, 0, lookup_top, hN, by decide, by decide⟩
  refine wss_cons <| wx_assign_tup <| we_tuple <| wl_cons <| we_cmp <| we_callK (gl_law_draw _) (kp_564 _) <| wl_cons <| we_name rfl <| wl_cons <| we_int <| wl_nil <| Wc.wp (P₀.draw (d := 0) (K := 8999) (by decide) (by decide) fun σ₁ t₁ P₁ T₁ a1 a2 => ?_) (by exact Nat.le_of_ble_eq_true rfl)
  refine we_int <| gt_ints <| wl_cons <| we_bin <| we_int <| we_callK (gl_law_draw _) (kp_564 _) <| wl_cons <| we_name rfl <| wl_cons <| we_int <| wl_nil <| Wc.wp (P₁.draw (d := 0) (K := 8998) (by decide) (by decide) fun σ₂ t₂ P₂ T₂ b1 b2 => add_ints ?_) (by exact Nat.le_of_ble_eq_true rfl)
  refine wl_cons <| we_cmp <| we_callK (gl_law_draw _) (kp_564 _) <| wl_cons <| we_name rfl <| wl_cons <| we_int <| wl_nil <| Wc.wp (P₂.draw (d := 0) (K := 8997) (by decide) (by decide) fun σ₃ t₃ P₃ T₃ c1 c2 => ?_) (by exact Nat.le_of_ble_eq_true rfl)
  refine we_int <| eq_ints <| wl_nil ⟨by exact Nat.le_of_ble_eq_true rfl, wb_tup <| wb_name (hk := .inr ⟨rfl, rfl, by simp [cellsFrom, envOfC]⟩) <| wb_name <| wb_name ?_⟩
  generalize hrow : decide (0 < t₁) = row
  obtain ⟨k, hk⟩ : ∃ k : Nat, 1 + t₂ = ((k + 1 : Nat) : Int) := ⟨t₂.toNat, by lia⟩
  have hk24 : k < 24 := by lia
  rw [hk]
  generalize htr : (t₃ == 1) = tr
  refine wss_cons <| wx_assign_comp _ [(S "pen", .cell a), (S "is_row", .bool row)] ⟨rfl, by decide, rfl, by decide, ?_⟩ ?_
  · intro x X e
    by_cases hx : x = S "pen"
    · subst hx; cases e; exact ⟨rfl, rfl, rfl, rfl⟩
    · rw [List.lookup_cons, beq_eq_false_iff_ne.mpr hx] at e
      by_cases hx2 : x = S "is_row"
      · subst hx2; cases e; exact ⟨rfl, rfl, rfl, rfl⟩
      · rw [List.lookup_cons, beq_eq_false_iff_ne.mpr hx2] at e
        cases e
  refine we_callT (gb_range _) bt_range <| we_name rfl <| range1 fun t u v => ?_
  have addr : ∀ {σ σ' : Store}, Turned a σ σ' → σ'.map (·.1) = σ.map (·.1) := fun {σ σ'} h => by
    have key : ∀ (τ : Store) (Z : Cel), (put τ a Z).map (·.1) = τ.map (·.1) := fun τ Z => by
      unfold put
      rw [List.map_map]
      refine List.map_congr_left fun p _ => ?_
      simp only [Function.comp]
      split
      · rename_i e; exact e.symm
      · rfl
    rw [← key σ' (.list []), h, key]
  refine walk1 _ (fun i acc σ' => i ≤ k + 1 → Drawn a σ₃ row i acc σ') (itr_rng _ (by decide) (by decide) (by lia) (by lia)) (by simp; lia) (fun _ => ⟨P₃.le (by lia), rfl, [], rfl, rfl, by simp, by simp, by simp⟩) ?_ ?_
  · rintro C D i Y acc ρ' σ' hY hl hD hK hρ hx
    have hi : i < k + 1 := by
      have := (List.getElem?_eq_some_iff.mp hY).1
      simp only [List.length_map, List.length_range] at this
      lia
    obtain ⟨hpen, hadr, prs, rfl, hlen, h1, h2, h3⟩ := hK (by lia)
    have hY' : Y = .int (i : Int) := by
      rw [List.getElem?_map, List.getElem?_range (by lia)] at hY
      have := Option.some.inj hY
      rw [← this]
      show V.int (0 + (i : Int)) = _
      rw [Int.zero_add]
    subst hY'
    have hmem : a ∈ σ'.map (·.1) := by
      obtain ⟨n, j, hl, _⟩ := hpen
      exact lookup_mem hl
    have hne : a ≠ D := fun e => hD (e ▸ hmem)
    refine wts_nil ?_
    have hpn := lookup_skip (x := S "at") (X := V.int (i : Int)) (y := S "pen") (by decide) (hρ (S "pen") _ rfl)
    have hrw := lookup_skip (x := S "at") (X := V.int (i : Int)) (y := S "is_row") (by decide) (hρ (S "is_row") _ rfl)
    -- a part is drawn
    have part : ∀ (K : Nat) (τ : Store), Pen a (K + 3) τ → 8000 - 10 * (i + 1) ≤ K → τ.map (·.1) = σ'.map (·.1) → ∀ {Q : V → Store → Prop}, (∀ Z σ'', (∃ σ₄, σ'' = (D, .list (prs.map ndV)) :: σ₄ ∧ D ∉ σ₄.map (·.1) ∧ (i + 1 ≤ k + 1 → Drawn a σ₃ row (i + 1) (prs.map ndV ++ [Z]) σ₄)) → Q Z σ'') → Wc g 8 (.ref 583) ((D, .list (prs.map ndV)) :: τ) [.cell a] Q := by
      intro K τ hP hK' hA Q hQ
      refine c_part (d := 0) (hP.cons hne) fun σ'' n ws hP' hT hPt => hQ _ _ ?_
      obtain ⟨r, rfl, hr⟩ := hT.cons hne
      have hA' := (addr hr).trans hA
      refine ⟨r, rfl, hA' ▸ hD, fun _ => ⟨(hP'.tail hne).le hK', hA'.trans hadr, prs ++ [(n, ws)], by simp [ndV], by simp [hlen], ?_, ?_, ?_⟩⟩
      · intro p hp; rcases List.mem_append.mp hp with h | h
        · exact h1 p h
        · rw [List.mem_singleton.mp h]; exact .part hPt
      · intro e p hp; rcases List.mem_append.mp hp with h | h
        · exact h2 e p h
        · rw [List.mem_singleton.mp h]; exact hPt
      · intro p hp
        cases prs with
        | nil => cases hp; exact hPt
        | cons q r => exact h3 p hp
    refine we_ifexp <| wt_boolop <| wall_or <| wt_val rfl <| we_name hrw ⟨row, rfl, ?_⟩
    have hfst : ∀ Q : V → Store → Prop, (∀ Z σ'', (∃ σ₄, σ'' = (D, .list (prs.map ndV)) :: σ₄ ∧ D ∉ σ₄.map (·.1) ∧ (i + 1 ≤ k + 1 → Drawn a σ₃ row (i + 1) (prs.map ndV ++ [Z]) σ₄)) → Q Z σ'') → Wc g 8 (.ref 583) ((D, .list (prs.map ndV)) :: σ') [.cell a] Q := fun Q hQ => part (8000 - 10 * i - 3) σ' (hpen.le (by lia)) (by lia) rfl hQ
    by_cases er : row = true
    · rw [er]
      rw [er] at hfst
      exact we_callK (gl_law_part _) (kp_583 _) <| wl_cons <| we_name hpn <| wl_nil <| Wc.wp (hfst _ fun Z σ'' z => z) (by exact Nat.le_of_ble_eq_true rfl)
    have er : row = false := by simpa using er
    rw [er]
    refine wall_or <| wt_cmp <| we_name rfl <| we_int <| eq_ints ⟨_, rfl, ?_⟩
    by_cases e0 : i = 0
    · have eb : ((i : Int) == 0) = true := beq_iff_eq.mpr (by lia)
      rw [eb]
      rw [er] at hfst
      exact we_callK (gl_law_part _) (kp_583 _) <| wl_cons <| we_name hpn <| wl_nil <| Wc.wp (hfst _ fun Z σ'' z => z) (by exact Nat.le_of_ble_eq_true rfl)
    have eb : ((i : Int) == 0) = false := beq_eq_false_iff_ne.mpr (by lia)
    rw [eb]
    refine wall_or <| wt_cmp <| we_callK (gl_law_draw _) (kp_564 _) <| wl_cons <| we_name hpn <| wl_cons <| we_int <| wl_nil <| Wc.wp (((hpen.le (K' := 8000 - 10 * i - 1 + 1) (by lia)).cons hne).draw (d := 0) (by decide) (by decide) fun τ tt hP hT u0 u1 => ?_) (by exact Nat.le_of_ble_eq_true rfl)
    refine we_int <| eq_ints ⟨_, rfl, ?_⟩
    obtain ⟨r, rfl, hr⟩ := hT.cons hne
    have hPr := hP.tail hne
    by_cases et : tt = 0
    · rw [beq_iff_eq.mpr et]
      have hh := fun Q hQ => part (8000 - 10 * i - 4) r (hPr.le (by lia)) (by lia) (addr hr) (Q := Q) hQ
      rw [er] at hh
      exact we_callK (gl_law_part _) (kp_583 _) <| wl_cons <| we_name hpn <| wl_nil <| Wc.wp (hh _ fun Z σ'' z => z) (by exact Nat.le_of_ble_eq_true rfl)
    rw [beq_eq_false_iff_ne.mpr et]
    refine wall_nil ?_
    refine we_callK (gl_law_letter _) (kp_571 _) <| wl_cons <| we_name hpn <| wl_nil <| Wc.wp (c_letter (d := 0) (K := 8000 - 10 * i - 2) ((hPr.le (by lia)).cons hne) fun τ b hP₂ hT₂ => ?_) (by exact Nat.le_of_ble_eq_true rfl)
    obtain ⟨r₂, rfl, hr₂⟩ := hT₂.cons hne
    have hA' := (addr hr₂).trans (addr hr)
    refine ⟨r₂, rfl, hA' ▸ hD, fun _ => ⟨(hP₂.tail hne).le (by lia), hA'.trans hadr, prs ++ [(.chars b, [[b]])], by simp [ndV]; rfl, by simp [hlen], ?_, fun e => (Bool.noConfusion e), ?_⟩⟩
    · intro p hp; rcases List.mem_append.mp hp with h | h
      · exact h1 p h
      · rw [List.mem_singleton.mp h]; exact .letter b
    · intro p hp
      cases prs with
      | nil => simp only [List.length_nil] at hlen; lia
      | cons q r => exact h3 p hp
  intro acc σ₄ hK
  have hlen' : ((List.range (((k + 1 : Nat) : Int) - 0).toNat).map fun (i : Nat) => V.int (0 + (i : Int))).length = k + 1 := by simp
  rw [hlen'] at hK
  obtain ⟨hpen, hadr, prs, rfl, hlen, h1, h2, h3⟩ := hK (Nat.le_refl _)
  have B : Built row prs := ⟨h1, h2, h3, by lia, by lia⟩
  clear h1 h2 h3
  have hsz := B.size
  have hht := (nodeOf row prs).ht_size
  have hpl : (prs.map ndV).length = prs.length := List.length_map _
  have hfew := B.few
  -- the node
  refine wss_cons <| wx_assign <| we_ifexp_r (fun X σ' => X = (nodeOf row prs).v ∧ σ' = σ₄) (wt_val rfl <| we_name rfl ⟨row, rfl, ?_⟩) ?_
  · have hn : ((prs.take prs.length).map fun p => p.1.v) = (prs.map (·.1)).map Nd.v := by rw [List.take_length, List.map_map]; rfl
    by_cases er : row = true
    · rw [er]
      refine we_callK (gl_cat_all _) (kp_475 _) <| wl_cons <| we_comp [] [] lies_none <| we_name rfl <| walk_map (prs.map ndV) (fun i acc => acc = (prs.take i).map fun p => p.1.v) (itr_list _ _) (by lia) rfl ?_ ?_
      · rintro C D i Y acc ρ' hY rfl _
        obtain ⟨p, hp', rfl⟩ := ndV_get hY
        refine we_sub <| we_name rfl <| we_int <| sub_tup (j := 0) rfl rfl (by decide) ⟨rfl, ?_⟩
        rw [List.take_add_one, hp']
        simp
      rintro acc rfl
      rw [hpl, hn]
      exact wl_nil <| Wc.wp (c_cat_all (prs.map (·.1)) (by rw [List.length_map]; lia) ⟨rfl, rfl⟩) (by exact Nat.le_of_ble_eq_true rfl)
    · have er : row = false := by simpa using er
      rw [er]
      refine we_callK (gl_alt_all _) (kp_482 _) <| wl_cons <| we_comp [] [] lies_none <| we_name rfl <| walk_map (prs.map ndV) (fun i acc => acc = (prs.take i).map fun p => p.1.v) (itr_list _ _) (by lia) rfl ?_ ?_
      · rintro C D i Y acc ρ' hY rfl _
        obtain ⟨p, hp', rfl⟩ := ndV_get hY
        refine we_sub <| we_name rfl <| we_int <| sub_tup (j := 0) rfl rfl (by decide) ⟨rfl, ?_⟩
        rw [List.take_add_one, hp']
        simp
      rintro acc rfl
      rw [hpl, hn]
      exact wl_nil <| Wc.wp (c_alt_all (prs.map (·.1)) (by rw [List.length_map]; lia) ⟨rfl, rfl⟩) (by exact Nat.le_of_ble_eq_true rfl)
  rintro X σ₅ ⟨rfl, rfl⟩
  -- the rows
  refine wss_cons <| wx_assign_comp [] [] lies_none <| we_name rfl <| walk_map (prs.map ndV) (fun i acc => acc = (prs.take i).map fun p => rowV p.2) (itr_list _ _) (by lia) rfl ?_ ?_
  · rintro C D i Y acc ρ' hY rfl _
    obtain ⟨p, hp', rfl⟩ := ndV_get hY
    refine we_sub <| we_name rfl <| we_int <| sub_tup (j := 1) rfl rfl (by decide) ⟨rfl, ?_⟩
    rw [List.take_add_one, hp']
    simp
  rintro acc rfl
  have hrows : ((prs.take prs.length).map fun p => rowV p.2) = (prs.map (·.2)).map rowV := by rw [List.take_length, List.map_map]; rfl
  rw [hpl, hrows]
  -- the words that are due
  have hwg := words_good row prs
  have hw7 := hwg.le
  have hok : ∀ r ∈ prs.map (·.2), r.length ≤ 7 ∧ ∀ x ∈ r, x.length < 3 := (Built.showsAll B.items).ok
  refine wss_cons <| wx_assign_comp [] [] lies_none <| we_ifexp_r (fun X σ' => X = rowV (wordsOf row prs) ∧ σ' = σ₅) (wt_val rfl <| we_name rfl ⟨row, rfl, ?_⟩) ?_
  · by_cases er : row = true
    · rw [er]
      exact we_callK (gl_law_words _) (kp_576 _) <| wl_cons <| we_name rfl <| wl_nil <| Wc.wp (c_words (d := 0) (prs.map (·.2)) (by rw [List.length_map]; lia) (fun r hr => ⟨Nat.le_trans (hok r hr).1 (by decide), (hok r hr).2⟩) ⟨rfl, rfl⟩) (by exact Nat.le_of_ble_eq_true rfl)
    · have er : row = false := by simpa using er
      rw [er]
      have hfl : ∀ (l : List (List Wd)), (∀ r ∈ l, r.length ≤ 7) → l.flatten.length ≤ 7 * l.length := by
        intro l
        induction l with
        | nil => intro _; simp
        | cons r l ih =>
          intro hl
          have := ih fun r hr => hl r (.tail _ hr)
          have := hl r (.head _)
          rw [List.flatten_cons, List.length_append, List.length_cons]; lia
      have hf := hfl (prs.map (·.2)) fun r hr => (hok r hr).1
      rw [List.length_map] at hf
      have hV : ((prs.map (·.2)).map fun r => r.map wdV).flatten = (prs.map (·.2)).flatten.map wdV := by rw [List.map_flatten]
      have hR : ∀ l : List (List Wd), l.map rowV = (l.map fun r => r.map wdV).map V.list := fun l => by rw [List.map_map]; rfl
      rw [hR]
      refine we_callK (gl_law_words _) (kp_576 _) <| wl_cons <| we_list <| wl_cons <| we_callB (gb_sum _) bb_sum <| wl_cons <| we_name rfl <| wl_cons <| we_list <| wl_nil ⟨by exact Nat.le_of_ble_eq_true rfl, wl_nil ?_⟩
      refine sum_lists rfl (by rw [hV, List.length_map]; lia) ?_
      rw [hV]
      refine wl_nil ⟨by exact Nat.le_of_ble_eq_true rfl, wl_nil <| Wc.wp (c_words (d := 0) [(prs.map (·.2)).flatten] (by exact Nat.le_of_ble_eq_true rfl) (fun r hr => ?_) ⟨rfl, rfl⟩) (by exact Nat.le_of_ble_eq_true rfl)⟩
      rw [List.mem_singleton.mp hr]
      refine ⟨by lia, fun x hx => ?_⟩
      obtain ⟨r', hr', hx'⟩ := List.mem_flatten.mp hx
      exact (hok r' hr').2 x hx'
  rintro X σ₆ ⟨rfl, rfl⟩
  refine walk1 ((wordsOf row prs).map wdV) (fun i acc σ' => acc = (((wordsOf row prs).take i).filter fun w => decide (w ≠ [])).map wdV ∧ σ' = σ₆) (itr_list _ _) (by rw [List.length_map]; lia) ⟨rfl, rfl⟩ ?_ ?_
  · rintro C D i Y acc ρ' σ' hY hl hD ⟨rfl, rfl⟩ hρ hx
    obtain ⟨w, hw, rfl⟩ := row_get hY
    refine wts_one <| wt_cmp <| we_name rfl <| we_str <| ne_strs ⟨_, rfl, ?_⟩
    rw [ne_eps]
    by_cases e : w ≠ []
    · rw [decide_eq_true e]
      refine we_name rfl ⟨σ', rfl, hD, ?_, rfl⟩
      rw [List.take_add_one, hw, List.filter_append, List.map_append]
      simp only [Option.toList_some, List.filter_cons, decide_eq_true e, if_true, List.filter_nil, List.map_cons, List.map_nil]
    · rw [decide_eq_false e]
      refine ⟨σ', rfl, hD, ?_, rfl⟩
      rw [List.take_add_one, hw, List.filter_append, List.map_append]
      simp only [Option.toList_some, List.filter_cons, decide_eq_false e, Bool.false_eq_true, if_false, List.filter_nil, List.map_nil, List.append_nil]
  rintro acc σ₇ ⟨rfl, rfl⟩
  rw [List.length_map, List.take_length]
  have hdue : (((wordsOf row prs).filter fun w => decide (w ≠ [])).map wdV) = (dueOf row prs).map wdV := rfl
  rw [hdue]
  clear hdue
  generalize hn : nodeOf row prs = n at *
  have hnh : n.ht ≤ 170 := Nat.le_trans hht (Nat.le_trans hsz (by decide))
  have hn10 : n.size ≤ 2 ^ 10 := Nat.le_trans hsz (by decide)
  have hnd : 3 * n.size + 8 ≤ 600 := Nat.le_trans (Nat.add_le_add_right (Nat.mul_le_mul_left 3 hsz) 8) (by decide)
  have hnd1 : 3 * n.size + 8 + 0 + 1 ≤ 600 := Nat.le_trans (Nat.add_le_add_right (Nat.mul_le_mul_left 3 hsz) 9) (by decide)
  -- before, bare, words and depth
  refine wss_cons <| wx_assign <| we_methI (pl := _) <| we_name rfl ⟨_, meth_told _ n, wl_nil <| Wc.wp (c_told n _ _ (d20 hnh) ?_) (dle hnh)⟩
  refine wss_cons <| wx_assign <| we_callK (gl_without_empty _) (kp_543 _) <| wl_cons <| we_name rfl <| wl_nil <| Wc.wp (c_we n _ _ hn10 fun m hm => ?_) hnd
  have hmh9 : m.ht ≤ 169 := Nat.le_trans hm.ht (Nat.succ_le_succ hsz)
  have hmh : m.ht ≤ 170 := Nat.le_succ_of_le hmh9
  have hmc := hm.cant
  refine wss_cons <| wx_assign_tup <| we_callK (gl_law_shown _) (kp_595 _) <| wl_cons <| we_methI (pl := _) <| we_name rfl ⟨_, meth_told _ m, wl_nil <| Wc.wp (c_told m _ _ (d20 hmh) ?_) (dle hmh)⟩
  refine wl_nil <| Wc.wp (c_shown m _ _ (Nat.le_trans hmh (by decide)) fun ws M hw hM => ?_) (dle hmh)
  refine wb_tup <| wb_name <| wb_name ?_
  have hperm : ws.Perm (dueOf row prs) := B.due (hn ▸ hm) hw
  -- the first test
  refine wss_cons <| wx_if <| wt_boolop <| wall_or <| wt_cmp <| we_callB (gb_sorted _) bb_sorted <| wl_cons <| we_name rfl <| wl_nil <| sorted_row hw.good.le fun ss hs1 hs2 => ?_
  refine we_callB (gb_sorted _) bb_sorted <| wl_cons <| we_name rfl <| wl_nil <| sorted_row (ws := dueOf row prs) (due_good row prs).le fun ts ht1 ht2 => ?_
  refine ne_sorted hperm hs1 hs2 ht1 ht2 (by exact Nat.le_of_ble_eq_true rfl) ⟨_, rfl, ?_⟩
  refine wall_or <| wt_val rfl <| we_callK (gl_can_be_empty _) (kp_531 _) <| wl_cons <| we_name rfl <| wl_nil <| Wc.wp (c_can m _ _ (d20 hmh) ⟨_, rfl, ?_⟩) (dle hmh)
  rw [hmc]
  refine wall_or <| wt_cmp <| we_methI (pl := _) <| we_name rfl ⟨_, meth_told _ n, wl_nil <| Wc.wp (c_told n _ _ (d20 hnh) ?_) (dle hnh)⟩
  refine we_name rfl <| ne_told (n := n) (d8 hnh) ⟨_, rfl, ?_⟩
  refine wall_nil <| wss_nil ?_
  -- the second test
  refine wss_cons <| wx_if <| wt_boolop <| wall_or <| wt_cmp <| we_name rfl <| we_bin <| we_int <| we_ifexp_r (fun X σ' => ∃ b : Int, X = .int b ∧ σ' = σ₇ ∧ M ≤ 5 + b) (wt_val rfl <| we_name rfl ⟨row, rfl, ?_⟩) ?_
  · by_cases er : row = true
    · subst er
      refine we_bin <| we_int <| we_callK (gl_law_halvings _) (kp_602 _) <| wl_cons <| we_name rfl <| wl_nil <| Wc.wp (c_halv (d := 0) (k + 1) (by lia) fun q hq => mul_ints (.of_left (by decide)) ⟨_, rfl, rfl, ?_⟩) (by exact Nat.le_of_ble_eq_true rfl)
      have := B.deepRow (hn ▸ hm) q (by lia)
      lia
    · have er : row = false := by simpa using er
      subst er
      refine we_int ⟨1, rfl, rfl, ?_⟩
      have := (B.alt (hn ▸ hm)).1
      lia
  rintro X σ₈ ⟨b, rfl, rfl, hb⟩
  refine add_ints <| gt_ints ⟨_, rfl, ?_⟩
  rw [decide_eq_false (by lia)]
  refine wall_or <| wt_cmp <| we_methI (pl := _) <| we_callK (gl_without_empty _) (kp_543 _) <| wl_cons <| we_name rfl <| wl_nil <| Wc.wp (c_we0 (d := 0) m hmc (d20 hmh) ⟨_, meth_told _ m, wl_nil <| Wc.wp (c_told m _ _ (d20 hmh) ?_) (dle hmh)⟩) (by exact dle (k := 5) hmh)
  refine we_methI (pl := _) <| we_name rfl ⟨_, meth_told _ m, wl_nil <| Wc.wp (c_told m _ _ (d20 hmh) ?_) (dle hmh)⟩
  refine ne_told (n := m) (d8 hmh) ⟨_, rfl, ?_⟩
  refine wall_nil <| wss_nil ?_
  -- the third test
  refine wss_if (fun ρ' σ' => ρ'.lookup (S "pen") = some (.cell a) ∧ ρ'.lookup (S "node") = some n.v ∧ ρ'.lookup (S "bare") = some m.v ∧ ρ'.lookup (S "has_trail") = some (.bool tr) ∧ σ' = σ₈) (wt_boolop <| wall_and <| wt_not <| wt_val rfl <| we_name rfl ⟨row, rfl, ?_⟩) ?_
  · by_cases er : row = true
    · subst er
      exact wss_nil ⟨rfl, rfl, rfl, rfl, rfl⟩
    · have er : row = false := by simpa using er
      subst er
      refine wall_and <| wt_cmp <| we_callB (gb_len _) bb_len <| wl_cons <| we_callK (gl_law_spread _) (kp_590 _) <| wl_cons <| we_methI (pl := _) <| we_name rfl ⟨_, meth_told _ m, wl_nil <| Wc.wp (c_told m _ _ (d20 hmh) ?_) (dle hmh)⟩
      have hsl := spineK_len (k := m.kd) m
      have hfl := (B.alt (hn ▸ hm)).2
      have hsl' : m.spine.length ≤ m.ht := hsl
      refine wl_nil <| Wc.wp (c_spread (d := 0) m (d20 hmh) ?_) (by exact Nat.le_of_ble_eq_true rfl)
      refine wl_nil <| len_list' (by rw [List.length_map]; lia) <| we_name rfl <| lt_ints ⟨_, rfl, ?_⟩
      rw [decide_eq_false (by rw [List.length_map]; lia)]
      exact wss_nil ⟨rfl, rfl, rfl, rfl, rfl⟩
  rintro ρ' σ₉ ⟨hp1, hp2, hp3, hp4, rfl⟩
  -- the trail
  refine wss_cons <| wx_assign_tup <| we_callK (gl_law_letter _) (kp_571 _) <| wl_cons <| we_name hp1 <| wl_nil <| Wc.wp (c_letter (d := 0) (K := 0) (hpen.le (by lia)) fun σ' e hP hT => ?_) (by exact Nat.le_of_ble_eq_true rfl)
  refine wb_tup <| wb_name <| wb_name ?_
  have sk : ∀ {y : Str} {X Y Z : V}, (y == S "trail") = false → (y == S "more") = false → ρ'.lookup y = some Z → List.lookup y ((S "more", Y) :: (S "trail", X) :: ρ') = some Z := fun h1 h2 h => lookup_skip h2 (lookup_skip h1 h)
  have hmt : (Nd.chars e).ht = 1 := rfl
  refine wss_cons <| wx_assign <| we_callK (gl_matched_node _) (kp_550 _) <| wl_cons <| we_callK (gl_Pattern _) (kp_520 _) <| wl_cons <| we_name (sk (by decide) (by decide) hp2) <| wl_cons <| we_bool <| wl_cons <| we_ifexp_r (fun X σ'' => X = trV (if tr then some (.chars e) else none) ∧ σ'' = σ') (wt_val rfl <| we_name (sk (by decide) (by decide) hp4) ⟨tr, rfl, ?_⟩) ?_
  · by_cases et : tr = true
    · subst et
      exact we_name rfl ⟨rfl, rfl⟩
    · have et : tr = false := by simpa using et
      subst et
      exact we_none ⟨rfl, rfl⟩
  rintro X σ'' ⟨rfl, rfl⟩
  refine wl_nil <| Wc.wp (new_Pattern ?_) (by exact Nat.le_of_ble_eq_true rfl)
  refine wl_nil <| Wc.wp (c_matched (d := 0) n (if tr then some (.chars e) else none) hn10 fun m' hm' => ?_) hnd1
  have em := hm.det _ hm'
  subst em
  generalize hw' : withTr m' (if tr then some (.chars e) else none) = w
  have hwh : w.ht ≤ 170 := by
    rw [← hw']
    cases tr
    · exact hmh
    · exact Nat.succ_le_succ (Nat.max_le.mpr ⟨hmh9, Nat.le_of_ble_eq_true rfl⟩)
  have sk3 : ∀ {y : Str} {W X Y Z : V}, (y == S "whole") = false → (y == S "trail") = false → (y == S "more") = false → ρ'.lookup y = some Z → List.lookup y ((S "whole", W) :: (S "more", Y) :: (S "trail", X) :: ρ') = some Z := fun h0 h1 h2 h => lookup_skip h0 (lookup_skip h2 (lookup_skip h1 h))
  refine wss_cons <| wx_return <| we_and2 <| we_cmp <| we_methI (pl := _) <| we_name rfl ⟨_, meth_told _ w, wl_nil <| Wc.wp (c_told w _ _ (d20 hwh) ?_) (dle hwh)⟩
  refine we_ifexp_r (fun X τ => X = w.t ∧ τ = σ'') (wt_val rfl <| we_name (sk3 (by decide) (by decide) (by decide) hp4) ⟨tr, rfl, ?_⟩) ?_
  · by_cases et : tr = true
    · subst et
      refine we_tuple <| wl_cons <| we_str <| wl_cons <| we_methI (pl := _) <| we_name (sk3 (by decide) (by decide) (by decide) hp3) ⟨_, meth_told _ m', wl_nil <| Wc.wp (c_told m' _ _ (d20 hmh) ?_) (dle hmh)⟩
      refine wl_cons <| we_methI (pl := _) <| we_name rfl ⟨_, meth_told _ (.chars e), wl_nil <| Wc.wp (c_told (.chars e) _ _ (by exact Nat.le_of_ble_eq_true rfl) ?_) (by exact Nat.le_of_ble_eq_true rfl)⟩
      refine wl_nil ⟨by exact Nat.le_of_ble_eq_true rfl, ?_, rfl⟩
      rw [← hw']
      rfl
    · have et : tr = false := by simpa using et
      subst et
      refine we_methI (pl := _) <| we_name (sk3 (by decide) (by decide) (by decide) hp3) ⟨_, meth_told _ m', wl_nil <| Wc.wp (c_told m' _ _ (d20 hmh) ⟨?_, rfl⟩) (dle hmh)⟩
      rw [← hw']
      rfl
  rintro X τ ⟨rfl, rfl⟩
  refine eq_told (n := w) (d8 hwh) ⟨true, rfl, ?_⟩
  refine we_cmp <| we_callB (gb_len _) bb_len <| wl_cons <| we_name rfl <| wl_nil <| len_list' (by exact Nat.le_of_ble_eq_true rfl) <| we_int <| eq_ints ?_
  rfl
-- X13
/-- the law's own frame, from the top -/
theorem top_run {w : World} {s₀ s₁ : Shared} {mg mb : Str → Option Value} {E : Value → Shared → Prop} {name : Str} {scope : Scope} {body : List Stmt} {fa : Addr} {cd : Value} {h₁ : Heap} {tk : Nat} {m cm : Str → Option Value} {cs : List (Str × Addr)} {cells : Led} {a : Addr} {vs : List Value} {ns : List Int} {P : Flow → Shared → Prop} {p : Str}
    (T : Top HV (looseW HV LN) (ExcName.means s₀.heap) mg mb s₁.heap) (KX : (hd.heap_1 w.params).In s₁.heap) (hI : IntsAre vs ns) (hL : s₁.heap.IsList a vs.toArray)
    (F : Fr s₁.heap s₁.heap.objs.size h₁ m) (N : News s₁.heap s₁.heap.objs.size h₁ cells) (Y : CellsAre cm cs cells)
    (hcs : (envOfC name scope s₁.heap.objs.size fa cd).cells = cs) (hnd : (cs.map (·.2)).Nodup) (hk : scope.kind = .function) (hm : m p = some (.ref a)) (hp : (envOfC name scope s₁.heap.objs.size fa cd).kindOf p = some .local)
    (hz : vs.length ≤ 2 ^ 24) (hw : ∀ (g : G) (L f : Addr) (cd : Value), g.svs.length ≤ 2 ^ 24 → Wss g ⟨600, envOfC name scope L f cd, envOfC name scope L f cd⟩ [(p, .raw (.ref g.scr))] [] body fun fl _ _ => (match fl with | .ret X => X | _ => .none) = .bool true)
    (hP : ∀ h' tk' m', Fr s₁.heap s₁.heap.objs.size h' m' → P (.ret (.bool true)) { s₁ with heap := h', toks := tk' }) :
    wpAny (model PG w) (callerA.deeper (envOfC name scope s₁.heap.objs.size fa cd)) (execs body (envOfC name scope s₁.heap.objs.size fa cd)) P E { s₁ with heap := h₁, toks := tk } := by
  have ca := cells_addr Y
  have S : St ⟨w, ExcName.means s₀.heap, mg, mb, a, vs, ns, hI⟩ ⟨600, envOfC name scope s₁.heap.objs.size fa cd, envOfC name scope s₁.heap.objs.size fa cd⟩ [(p, .raw (.ref a))] (callerA.deeper (envOfC name scope s₁.heap.objs.size fa cd)) s₁.heap { s₁ with heap := h₁, toks := tk } m cells [] [] [] [] := by
    refine ⟨⟨⟨callerA, s₁.heap, [], below_caller _, rfl⟩, rfl, hk, KX, T, hL, rfl, ?_, ?_⟩, hk, rfl, rfl, F, ?_, ?_, ?_, .nil, ?_, fun _ x b e => ?_⟩
    · show callerA.depth + 1 + 600 < recursionLimit
      decide
    · show callerA.units + 3 + 8 * 600 < cLine
      decide
    · show News s₁.heap s₁.heap.objs.size h₁ _; simpa using N
    · simp only [List.append_nil]; rw [ca]; exact hnd
    · intro q _ r hr; cases hr
    · intro x X e
      rw [lookup_cons_str] at e
      by_cases hx : x = p
      · rw [if_pos hx] at e
        cases e
        exact ⟨_, .loc rfl (by rw [hx]; exact hp) (by rw [hx]; exact hm), .raw⟩
      · rw [if_neg hx] at e
        cases e
    · exact cells_find Y (hcs ▸ e)
  refine no_err (hw ⟨w, ExcName.means s₀.heap, mg, mb, a, vs, ns, hI⟩ _ _ _ hz _ _ _ _ _ _ _ _ S (fun f s' => P f s') fun f fl ρ' σ' h' tk' m' oc' ce' fz' S' sb r q => ?_) fun _ _ h => h
  cases r with
  | ret rv =>
    have q' : _ = V.bool true := q
    subst q'
    cases rv
    exact hP h' tk' m' S'.F
  | next => cases q
  | brk => cases q
  | cont => cases q
-- X14
theorem ints_len {vs : List Value} {ns : List Int} (h : IntsAre vs ns) : vs.length = ns.length := by
  induction h with
  | nil => rfl
  | cons _ _ _ ih => simp [ih]
local macro_rules | `(tactic| k_qdec) => `(tactic| decide +kernel)
theorem fin : PySem.Challenge.rw_qd0065_01.Holds := hd (by
  k_go0
  rename IntsAre _ _ => hI
  rename Heap.IsList _ _ _ => hL
  rename Fr _ _ _ _ => hF
  rename News _ _ _ _ => hN
  rename CellsAre _ _ _ => hY
  rename Top _ _ _ _ _ _ => hT
  rename Frag.In _ _ => hK
  have hlen := ints_len hI
  refine top_run (p := S "script") hT hK hI hL hF hN hY ?_ ?_ ?_ ?_ ?_ ?_ ?_ ?_
  · rfl
  · simp [cellsFrom]
  · rfl
  · rfl
  · rfl
  · rw [hlen]; lia
  rotate_left
  · intro h' tk' m' F'
    refine goodW_bool F' (by assumption) (raisesW_false ?_) ?_
    · wrow_none_raised
    · wrow_post
  exact fun g L f cd hz => lawAt_to (c_lawAt hz) (by k_is) L f cd)
end Mine
set_option maxRecDepth 100000 in
set_option maxHeartbeats 8000000 in
theorem PySem.Challenge.cw_qd0065_01_holds : PySem.Challenge.rw_qd0065_01.Holds := by
  exact Mine.fin
