import PyProof.Rows.All
import Wide.All
import OpenK.AllK
import Wide.FinOn
import PySem.Challenge.RW_pb0537_01
set_option Elab.async false
namespace Mine
set_option maxRecDepth 100000
set_option maxHeartbeats 8000000
local macro_rules | `(tactic| k_ne) => `(tactic| k_extra "k_ne")
local macro_rules | `(tactic| ktr_room) => `(tactic| k_extra "ktr_room")
local macro_rules | `(tactic| ktr_units) => `(tactic| k_extra "ktr_units")
local macro_rules | `(tactic| walk_at "call ref") => `(tactic| k_extra "call ref")
local macro_rules | `(tactic| walk_at "subscriptTail") => `(tactic| k_extra "subscriptTail")
local macro_rules | `(tactic| walk_at "call builtin:len") => `(tactic| k_extra "call builtin:len")
local macro_rules | `(tactic| walk_at "compareOp Lt ref ref") => `(tactic| k_extra "compareOp Lt ref ref")
local macro_rules | `(tactic| walk_at "compareOp LtE ref ref") => `(tactic| k_extra "compareOp LtE ref ref")
local macro_rules | `(tactic| walk_at "compareOp Eq ref ref") => `(tactic| k_extra "compareOp Eq ref ref")
local macro_rules | `(tactic| walk_at "compareOp NotEq ref ref") => `(tactic| k_extra "compareOp NotEq ref ref")
local macro_rules | `(tactic| walk_at "exec For Tuple Call cons nil") => `(tactic| k_extra "exec For Tuple Call cons nil")
local macro_rules | `(tactic| walk_at "call type:zip") => `(tactic| k_extra "call type:zip")
local macro_rules | `(tactic| walk_at "eval Call") => `(tactic| k_extra "eval Call")
local macro_rules | `(tactic| walk_at "subscriptTail Name Constant ref int") => `(tactic| k_extra "subscriptTail Name Constant ref int")
local macro_rules | `(tactic| walk_at "subscriptTail Name") => `(tactic| k_extra "subscriptTail Name")
local macro_rules | `(tactic| walk_at "UnrEndW") => `(tactic| k_extra "UnrEndW")
local macro_rules | `(tactic| walk_at "getMethod type:Exception") => `(tactic| k_extra "getMethod type:Exception")
local macro_rules | `(tactic| walk_at "call builtin:Exception.__init__") => `(tactic| k_extra "call builtin:Exception.__init__")
local macro_rules | `(tactic| walk_at "setAttr ref") => `(tactic| k_extra "setAttr ref")
local macro_rules | `(tactic| walk_at "binaryOp Pow int int") => `(tactic| k_extra "binaryOp Pow int int")
local macro_rules | `(tactic| walk_at "exec Raise some none") => `(tactic| k_extra "exec Raise some none")
local macro_rules | `(tactic| walk_at "RxRaised") => `(tactic| k_extra "RxRaised")
local macro_rules | `(tactic| walk_at "leaving ref") => `(tactic| k_extra "leaving ref")
local macro_rules | `(tactic| walk_at "noteFrame ref") => `(tactic| k_extra "noteFrame ref")
local macro_rules | `(tactic| walk_at "call builtin:min") => `(tactic| k_extra "call builtin:min")
local macro_rules | `(tactic| walk_at "exec For Name Name cons nil") => `(tactic| k_extra "exec For Name Name cons nil")
local macro_rules | `(tactic| walk_at "exec For Name Subscript cons nil") => `(tactic| k_extra "exec For Name Subscript cons nil")
local macro_rules | `(tactic| walk_at "last exec For") => `(tactic| k_extra "last exec For")
local macro_rules | `(tactic| walk_at "compareOp NotIn ref ref") => `(tactic| k_extra "compareOp NotIn ref ref")
section
open PySem PySem.W PyProof.Rows PySem.Calls
namespace MineHead
set_option maxRecDepth 100000
set_option maxHeartbeats 8000000
section
noncomputable abbrev PW : Program := PySem.Challenge.pw_pb0537_01
noncomputable def vs (x : String) (t : Nat) : Value := .str (Str.ofString x) t
noncomputable def en (P : Params) (k : String) (t : Nat) (v : Value) : DictEntry := ⟨PyData.keyHash P (Str.ofString k), .str (Str.ofString k) t, v⟩
noncomputable def ld (P : Params) : Value := match (boot_o_3 P).data with
  | .dict es _ => (es.toList.getD 3 ⟨0, .none, .none⟩).val
  | _ => .none
noncomputable def sT (i : Nat) : Stmt := PW.main.body.getD i (Stmt.Pass ⟨0, 0, 0, 0⟩)
noncomputable def sC (i j : Nat) : Stmt := match sT i with
  | .ClassDef _ _ _ b _ _ _ _ _ _ _ => b.getD j (Stmt.Pass ⟨0, 0, 0, 0⟩)
  | s => s
noncomputable def fd (st : Stmt) (qual : String) (gl : Nat) (d k doc pm : Value) (an : Option Nat) (cd ct : Value) (b : Nat) : FuncData := match st with
  | .FunctionDef n a body _ _ _ sc _ _ _ => ⟨n, Str.ofString qual, a, .stmts body, sc, gl, [], d, k, doc, pm, an, cd, ct, b⟩
  | _ => default
noncomputable def o11 : Obj := ⟨(.type "tuple"), none, (.seq (List.toArray []) 0), List.toArray []⟩
noncomputable def o12 : Obj := ⟨.none, none, (.fields (List.toArray [])), List.toArray []⟩
noncomputable def o13 : Obj := ⟨(.type "code"), none, (.fields (List.toArray [(vs "<module>" 182), (vs "<module>" 183), (vs "/claim/cut.py" 184), (.int 1 0), (.int 0 0), (.int 0 0), (.int 0 0), (.int 0 0), (.ref 11), (.bool false), (.int 181 0), (.ref 12), .none, .none, .none, .none, (.int 185 0), (.int 1 0), (vs "/claim/cut.py" 186)])), List.toArray []⟩
noncomputable def o14 : Obj := ⟨(.type "frame"), none, .plain, List.toArray [some (.ref 13), some (.ref 3), some (.ref 3), none, some (vs "__main__" 164), none, some (.ref 0)]⟩
noncomputable def HA (P : Params) : Heap := ⟨List.toArray [boot_o_0 P, boot_o_1 P, boot_o_2 P, boot_o_3 P, boot_o_4 P, boot_o_5 P, boot_o_6 P, boot_o_7 P, boot_o_8 P, boot_o_9 P, boot_o_10 P, o11, o12, o13, o14], {}⟩
noncomputable abbrev HB := HA
noncomputable def o2_1 (P : Params) : Obj := ⟨.none, none, (.dict (List.toArray [en P "type.__subclasses__.Exception.0" 221 (.int 38 0), en P "type.__subclasses__.Exception.n" 222 (.int 1 0)]) 2), List.toArray []⟩
noncomputable def o3_1 (P : Params) : Obj := ⟨(.type "dict"), none, (.dict (List.toArray [en P "__name__" 165 (vs "switchloom.errors" 194), en P "__doc__" 166 .none, en P "__package__" 167 .none, en P "__loader__" 168 (ld P), en P "__spec__" 169 .none, en P "__annotations__" 170 (.ref 6), en P "__builtins__" 171 (.ref 4), en P "__file__" 173 (vs "/claim/cut.py" 172), en P "__cached__" 174 .none, en P "_wall" 193 (.ref 21), en P "SwitchError" 224 (.ref 38)]) 11), List.toArray []⟩
noncomputable def o12_1 : Obj := ⟨.none, none, (.fields (List.toArray [(.int 1 0), (.int 0 0), (.ref 20), (.int 5 0), (.int 0 0), (.ref 27)])), List.toArray []⟩
noncomputable def o15 : Obj := ⟨(.type "tuple"), none, (.seq (List.toArray []) 0), List.toArray []⟩
noncomputable def o16 : Obj := ⟨.none, none, (.fields (List.toArray [])), List.toArray []⟩
noncomputable def o17 : Obj := ⟨(.type "tuple"), none, (.seq (List.toArray [(vs "k" 190)]) 0), List.toArray []⟩
noncomputable def o18 : Obj := ⟨(.type "tuple"), none, (.seq (List.toArray []) 0), List.toArray []⟩
noncomputable def o19 : Obj := ⟨.none, none, (.func (fd (sT 0) "_wall" 0 .none .none .none .none none .none .none 0)), List.toArray []⟩
noncomputable def o20 : Obj := ⟨(.type "code"), none, (.fields (List.toArray [(vs "_wall" 187), (vs "_wall" 188), (vs "/claim/cut.py" 189), (.int 1 0), (.int 1 0), (.int 0 0), (.int 0 0), (.int 3 0), (.ref 15), (.bool true), (.int 181 0), (.ref 16), .none, (.ref 17), (.ref 18), (.ref 19), (.int 191 0), (.int 1 0), (vs "/claim/cut.py" 192)])), List.toArray []⟩
noncomputable def o21 : Obj := ⟨(.type "function"), none, (.func (fd (sT 0) "_wall" 3 .none .none .none (vs "__main__" 164) none (.ref 20) .none 0)), List.toArray []⟩
noncomputable def o22 : Obj := ⟨(.type "tuple"), none, (.seq (List.toArray [(.type "Exception")]) 0), List.toArray []⟩
noncomputable def o23 : Obj := ⟨(.type "builtin_function_or_method"), none, (.fields (List.toArray [(.builtin "type.__prepare__"), (.type "type")])), List.toArray []⟩
noncomputable def o24 (P : Params) : Obj := ⟨(.type "dict"), none, (.dict (List.toArray [en P "__module__" 203 (vs "switchloom.errors" 194), en P "__qualname__" 205 (vs "SwitchError" 204), en P "__firstlineno__" 207 (.int 5 206), en P "__init__" 215 (.ref 35), en P "__static_attributes__" 217 (.ref 36)]) 5), List.toArray []⟩
noncomputable def o25 : Obj := ⟨(.type "tuple"), none, (.seq (List.toArray []) 0), List.toArray []⟩
noncomputable def o26 : Obj := ⟨.none, none, (.fields (List.toArray [(.int 7 0), (.int 4 0), (.ref 34)])), List.toArray []⟩
noncomputable def o27 : Obj := ⟨(.type "code"), none, (.fields (List.toArray [(vs "SwitchError" 198), (vs "SwitchError" 199), (vs "/claim/cut.py" 200), (.int 5 0), (.int 0 0), (.int 0 0), (.int 0 0), (.int 0 0), (.ref 25), (.bool false), (.int 181 0), (.ref 26), .none, .none, .none, .none, (.int 201 0), (.int 5 0), (vs "/claim/cut.py" 202)])), List.toArray []⟩
noncomputable def o28 : Obj := ⟨(.type "frame"), none, .plain, List.toArray [some (.ref 27), some (.ref 3), some (.ref 24), none, some (vs "switchloom.errors" 194), none, some (.ref 0)]⟩
noncomputable def o29 : Obj := ⟨(.type "tuple"), none, (.seq (List.toArray []) 0), List.toArray []⟩
noncomputable def o30 : Obj := ⟨.none, none, (.fields (List.toArray [])), List.toArray []⟩
noncomputable def o31 : Obj := ⟨(.type "tuple"), none, (.seq (List.toArray [(vs "self" 211), (vs "message" 212)]) 0), List.toArray []⟩
noncomputable def o32 : Obj := ⟨(.type "tuple"), none, (.seq (List.toArray []) 0), List.toArray []⟩
noncomputable def o33 : Obj := ⟨.none, none, (.func (fd (sC 2 0) "SwitchError.__init__" 0 .none .none .none .none none .none .none 0)), List.toArray []⟩
noncomputable def o34 : Obj := ⟨(.type "code"), none, (.fields (List.toArray [(vs "__init__" 208), (vs "SwitchError.__init__" 209), (vs "/claim/cut.py" 210), (.int 7 0), (.int 2 0), (.int 0 0), (.int 0 0), (.int 3 0), (.ref 29), (.bool true), (.int 181 0), (.ref 30), .none, (.ref 31), (.ref 32), (.ref 33), (.int 213 0), (.int 7 0), (vs "/claim/cut.py" 214)])), List.toArray []⟩
noncomputable def o35 : Obj := ⟨(.type "function"), none, (.func (fd (sC 2 0) "SwitchError.__init__" 3 .none .none .none (vs "switchloom.errors" 194) none (.ref 34) .none 0)), List.toArray []⟩
noncomputable def o36 : Obj := ⟨(.type "tuple"), none, (.seq (List.toArray [(vs "message" 216)]) 0), List.toArray []⟩
noncomputable def o37 (P : Params) : Obj := ⟨(.type "dict"), none, (.dict (List.toArray [en P "__module__" 203 (vs "switchloom.errors" 194), en P "__firstlineno__" 207 (.int 5 206), en P "__init__" 215 (.ref 35), en P "__static_attributes__" 217 (.ref 36), en P "__weakref__" 219 (.ref 39), en P "__doc__" 220 .none]) 3), List.toArray []⟩
noncomputable def o38 : Obj := ⟨(.type "type"), none, (.cls ⟨Str.ofString "SwitchError", [(.type "Exception")], [(.ref 38), (.type "Exception"), (.type "BaseException"), (.type "object")], 37, Str.ofString "SwitchError", true, [], [], false, none, false⟩), List.toArray [some (.ref 22), none, some (vs "SwitchError" 196), some (vs "SwitchError" 204), some (.builtin "Exception.__new__"), some (.bool true)]⟩
noncomputable def o39 : Obj := ⟨(.type "getset_descriptor"), none, (.fields (List.toArray [(vs "__weakref__" 218), (.ref 38), (.builtin "ExceptionGroup.__weakref__"), .none])), List.toArray []⟩
noncomputable def o40 : Obj := ⟨(.type "super"), none, (.fields (List.toArray [(.ref 38), (.ref 38), (.ref 38)])), List.toArray []⟩
noncomputable def o41 : Obj := ⟨(.type "builtin_function_or_method"), none, (.fields (List.toArray [(.builtin "object.__init_subclass__"), (.ref 38)])), List.toArray []⟩
noncomputable def H1 (P : Params) : Heap := ⟨List.toArray [boot_o_0 P, boot_o_1 P, o2_1 P, o3_1 P, boot_o_4 P, boot_o_5 P, boot_o_6 P, boot_o_7 P, boot_o_8 P, boot_o_9 P, boot_o_10 P, o11, o12_1, o13, o14, o15, o16, o17, o18, o19, o20, o21, o22, o23, o24 P, o25, o26, o27, o28, o29, o30, o31, o32, o33, o34, o35, o36, o37 P, o38, o39, o40, o41], {}⟩
noncomputable def o3_2 (P : Params) : Obj := ⟨(.type "dict"), none, (.dict (List.toArray [en P "__name__" 165 (vs "switchloom.vectors" 241), en P "__doc__" 166 .none, en P "__package__" 167 .none, en P "__loader__" 168 (ld P), en P "__spec__" 169 .none, en P "__annotations__" 170 (.ref 6), en P "__builtins__" 171 (.ref 4), en P "__file__" 173 (vs "/claim/cut.py" 172), en P "__cached__" 174 .none, en P "_wall" 193 (.ref 21), en P "SwitchError" 224 (.ref 38), en P "SizeError" 240 (.ref 51), en P "MOST_COST" 244 (.int 200000000 243), en P "LONG_WORTH" 246 (.int 20000000 245), en P "SHORT_ROWS" 259 (.ref 60), en P "cost_of" 269 (.ref 67), en P "with_cost" 277 (.ref 74), en P "best_vector" 284 (.ref 81), en P "is_better" 292 (.ref 88)]) 19), List.toArray []⟩
noncomputable def o12_2 : Obj := ⟨.none, none, (.fields (List.toArray [(.int 1 0), (.int 0 0), (.ref 20), (.int 5 0), (.int 0 0), (.ref 27), (.int 10 0), (.int 0 0), (.ref 47), (.int 16 0), (.int 0 0), (.ref 66), (.int 25 0), (.int 0 0), (.ref 73), (.int 27 0), (.int 0 0), (.ref 80), (.int 29 0), (.int 0 0), (.ref 87)])), List.toArray []⟩
noncomputable def o38_1 : Obj := ⟨(.type "type"), none, (.cls ⟨Str.ofString "SwitchError", [(.type "Exception")], [(.ref 38), (.type "Exception"), (.type "BaseException"), (.type "object")], 37, Str.ofString "SwitchError", true, [], [(.ref 51)], false, none, false⟩), List.toArray [some (.ref 22), none, some (vs "SwitchError" 196), some (vs "SwitchError" 204), some (.builtin "Exception.__new__"), some (.bool true)]⟩
noncomputable def o42 : Obj := ⟨(.type "tuple"), none, (.seq (List.toArray [(.ref 38)]) 0), List.toArray []⟩
noncomputable def o43 : Obj := ⟨(.type "builtin_function_or_method"), none, (.fields (List.toArray [(.builtin "type.__prepare__"), (.type "type")])), List.toArray []⟩
noncomputable def o44 (P : Params) : Obj := ⟨(.type "dict"), none, (.dict (List.toArray [en P "__module__" 232 (vs "switchloom.errors" 194), en P "__qualname__" 234 (vs "SizeError" 233), en P "__firstlineno__" 236 (.int 10 235), en P "__static_attributes__" 237 (.ref 49)]) 4), List.toArray []⟩
noncomputable def o45 : Obj := ⟨(.type "tuple"), none, (.seq (List.toArray []) 0), List.toArray []⟩
noncomputable def o46 : Obj := ⟨.none, none, (.fields (List.toArray [])), List.toArray []⟩
noncomputable def o47 : Obj := ⟨(.type "code"), none, (.fields (List.toArray [(vs "SizeError" 227), (vs "SizeError" 228), (vs "/claim/cut.py" 229), (.int 10 0), (.int 0 0), (.int 0 0), (.int 0 0), (.int 0 0), (.ref 45), (.bool false), (.int 181 0), (.ref 46), .none, .none, .none, .none, (.int 230 0), (.int 10 0), (vs "/claim/cut.py" 231)])), List.toArray []⟩
noncomputable def o48 : Obj := ⟨(.type "frame"), none, .plain, List.toArray [some (.ref 47), some (.ref 3), some (.ref 44), none, some (vs "switchloom.errors" 194), none, some (.ref 0)]⟩
noncomputable def o49 : Obj := ⟨(.type "tuple"), none, (.seq (List.toArray []) 0), List.toArray []⟩
noncomputable def o50 (P : Params) : Obj := ⟨(.type "dict"), none, (.dict (List.toArray [en P "__module__" 232 (vs "switchloom.errors" 194), en P "__firstlineno__" 236 (.int 10 235), en P "__static_attributes__" 237 (.ref 49), en P "__doc__" 238 .none]) 2), List.toArray []⟩
noncomputable def o51 : Obj := ⟨(.type "type"), none, (.cls ⟨Str.ofString "SizeError", [(.ref 38)], [(.ref 51), (.ref 38), (.type "Exception"), (.type "BaseException"), (.type "object")], 50, Str.ofString "SizeError", true, [], [], false, none, false⟩), List.toArray [some (.ref 42), none, some (vs "SizeError" 225), some (vs "SizeError" 233), some (.builtin "Exception.__new__"), some (.bool true)]⟩
noncomputable def o52 : Obj := ⟨(.type "super"), none, (.fields (List.toArray [(.ref 51), (.ref 51), (.ref 51)])), List.toArray []⟩
noncomputable def o53 : Obj := ⟨(.type "builtin_function_or_method"), none, (.fields (List.toArray [(.builtin "object.__init_subclass__"), (.ref 51)])), List.toArray []⟩
noncomputable def o54 : Obj := ⟨(.type "tuple"), none, (.seq (List.toArray [(.int 10000 247), (.int 2 248)]) 0), List.toArray []⟩
noncomputable def o55 : Obj := ⟨(.type "tuple"), none, (.seq (List.toArray [(.int 1000 249), (.int 4 250)]) 0), List.toArray []⟩
noncomputable def o56 : Obj := ⟨(.type "tuple"), none, (.seq (List.toArray [(.int 100 251), (.int 19 252)]) 0), List.toArray []⟩
noncomputable def o57 : Obj := ⟨(.type "tuple"), none, (.seq (List.toArray [(.int 16 253), (.int 62 254)]) 0), List.toArray []⟩
noncomputable def o58 : Obj := ⟨(.type "tuple"), none, (.seq (List.toArray [(.int 10 255), (.int 100 256)]) 0), List.toArray []⟩
noncomputable def o59 : Obj := ⟨(.type "tuple"), none, (.seq (List.toArray [(.int 4 257), (.int 250 258)]) 0), List.toArray []⟩
noncomputable def o60 : Obj := ⟨(.type "tuple"), none, (.seq (List.toArray [(.ref 54), (.ref 55), (.ref 56), (.ref 57), (.ref 58), (.ref 59)]) 0), List.toArray []⟩
noncomputable def o61 : Obj := ⟨(.type "tuple"), none, (.seq (List.toArray []) 0), List.toArray []⟩
noncomputable def o62 : Obj := ⟨.none, none, (.fields (List.toArray [])), List.toArray []⟩
noncomputable def o63 : Obj := ⟨(.type "tuple"), none, (.seq (List.toArray [(vs "speed" 263), (vs "is_long" 264), (vs "least" 265), (vs "cost" 266)]) 0), List.toArray []⟩
noncomputable def o64 : Obj := ⟨(.type "tuple"), none, (.seq (List.toArray []) 0), List.toArray []⟩
noncomputable def o65 : Obj := ⟨.none, none, (.func (fd (sT 8) "cost_of" 0 .none .none .none .none none .none .none 0)), List.toArray []⟩
noncomputable def o66 : Obj := ⟨(.type "code"), none, (.fields (List.toArray [(vs "cost_of" 260), (vs "cost_of" 261), (vs "/claim/cut.py" 262), (.int 16 0), (.int 2 0), (.int 0 0), (.int 0 0), (.int 3 0), (.ref 61), (.bool true), (.int 181 0), (.ref 62), .none, (.ref 63), (.ref 64), (.ref 65), (.int 267 0), (.int 16 0), (vs "/claim/cut.py" 268)])), List.toArray []⟩
noncomputable def o67 : Obj := ⟨(.type "function"), none, (.func (fd (sT 8) "cost_of" 3 .none .none .none (vs "switchloom.vectors" 241) none (.ref 66) .none 0)), List.toArray []⟩
noncomputable def o68 : Obj := ⟨(.type "tuple"), none, (.seq (List.toArray []) 0), List.toArray []⟩
noncomputable def o69 : Obj := ⟨.none, none, (.fields (List.toArray [])), List.toArray []⟩
noncomputable def o70 : Obj := ⟨(.type "tuple"), none, (.seq (List.toArray [(vs "vector" 273), (vs "cost" 274)]) 0), List.toArray []⟩
noncomputable def o71 : Obj := ⟨(.type "tuple"), none, (.seq (List.toArray []) 0), List.toArray []⟩
noncomputable def o72 : Obj := ⟨.none, none, (.func (fd (sT 9) "with_cost" 0 .none .none .none .none none .none .none 0)), List.toArray []⟩
noncomputable def o73 : Obj := ⟨(.type "code"), none, (.fields (List.toArray [(vs "with_cost" 270), (vs "with_cost" 271), (vs "/claim/cut.py" 272), (.int 25 0), (.int 2 0), (.int 0 0), (.int 0 0), (.int 3 0), (.ref 68), (.bool true), (.int 181 0), (.ref 69), .none, (.ref 70), (.ref 71), (.ref 72), (.int 275 0), (.int 25 0), (vs "/claim/cut.py" 276)])), List.toArray []⟩
noncomputable def o74 : Obj := ⟨(.type "function"), none, (.func (fd (sT 9) "with_cost" 3 .none .none .none (vs "switchloom.vectors" 241) none (.ref 73) .none 0)), List.toArray []⟩
noncomputable def o75 : Obj := ⟨(.type "tuple"), none, (.seq (List.toArray []) 0), List.toArray []⟩
noncomputable def o76 : Obj := ⟨.none, none, (.fields (List.toArray [])), List.toArray []⟩
noncomputable def o77 : Obj := ⟨(.type "tuple"), none, (.seq (List.toArray [(vs "vectors" 281)]) 0), List.toArray []⟩
noncomputable def o78 : Obj := ⟨(.type "tuple"), none, (.seq (List.toArray []) 0), List.toArray []⟩
noncomputable def o79 : Obj := ⟨.none, none, (.func (fd (sT 10) "best_vector" 0 .none .none .none .none none .none .none 0)), List.toArray []⟩
noncomputable def o80 : Obj := ⟨(.type "code"), none, (.fields (List.toArray [(vs "best_vector" 278), (vs "best_vector" 279), (vs "/claim/cut.py" 280), (.int 27 0), (.int 1 0), (.int 0 0), (.int 0 0), (.int 3 0), (.ref 75), (.bool true), (.int 181 0), (.ref 76), .none, (.ref 77), (.ref 78), (.ref 79), (.int 282 0), (.int 27 0), (vs "/claim/cut.py" 283)])), List.toArray []⟩
noncomputable def o81 : Obj := ⟨(.type "function"), none, (.func (fd (sT 10) "best_vector" 3 .none .none .none (vs "switchloom.vectors" 241) none (.ref 80) .none 0)), List.toArray []⟩
noncomputable def o82 : Obj := ⟨(.type "tuple"), none, (.seq (List.toArray []) 0), List.toArray []⟩
noncomputable def o83 : Obj := ⟨.none, none, (.fields (List.toArray [])), List.toArray []⟩
noncomputable def o84 : Obj := ⟨(.type "tuple"), none, (.seq (List.toArray [(vs "vector" 288), (vs "other" 289)]) 0), List.toArray []⟩
noncomputable def o85 : Obj := ⟨(.type "tuple"), none, (.seq (List.toArray []) 0), List.toArray []⟩
noncomputable def o86 : Obj := ⟨.none, none, (.func (fd (sT 11) "is_better" 0 .none .none .none .none none .none .none 0)), List.toArray []⟩
noncomputable def o87 : Obj := ⟨(.type "code"), none, (.fields (List.toArray [(vs "is_better" 285), (vs "is_better" 286), (vs "/claim/cut.py" 287), (.int 29 0), (.int 2 0), (.int 0 0), (.int 0 0), (.int 3 0), (.ref 82), (.bool true), (.int 181 0), (.ref 83), .none, (.ref 84), (.ref 85), (.ref 86), (.int 290 0), (.int 29 0), (vs "/claim/cut.py" 291)])), List.toArray []⟩
noncomputable def o88 : Obj := ⟨(.type "function"), none, (.func (fd (sT 11) "is_better" 3 .none .none .none (vs "switchloom.vectors" 241) none (.ref 87) .none 0)), List.toArray []⟩
noncomputable def H2 (P : Params) : Heap := ⟨List.toArray [boot_o_0 P, boot_o_1 P, o2_1 P, o3_2 P, boot_o_4 P, boot_o_5 P, boot_o_6 P, boot_o_7 P, boot_o_8 P, boot_o_9 P, boot_o_10 P, o11, o12_2, o13, o14, o15, o16, o17, o18, o19, o20, o21, o22, o23, o24 P, o25, o26, o27, o28, o29, o30, o31, o32, o33, o34, o35, o36, o37 P, o38_1, o39, o40, o41, o42, o43, o44 P, o45, o46, o47, o48, o49, o50 P, o51, o52, o53, o54, o55, o56, o57, o58, o59, o60, o61, o62, o63, o64, o65, o66, o67, o68, o69, o70, o71, o72, o73, o74, o75, o76, o77, o78, o79, o80, o81, o82, o83, o84, o85, o86, o87, o88], {}⟩
noncomputable def o3_3 (P : Params) : Obj := ⟨(.type "dict"), none, (.dict (List.toArray [en P "__name__" 165 (vs "switchloom.old_port" 317), en P "__doc__" 166 .none, en P "__package__" 167 .none, en P "__loader__" 168 (ld P), en P "__spec__" 169 .none, en P "__annotations__" 170 (.ref 6), en P "__builtins__" 171 (.ref 4), en P "__file__" 173 (vs "/claim/cut.py" 172), en P "__cached__" 174 .none, en P "_wall" 193 (.ref 21), en P "SwitchError" 224 (.ref 38), en P "SizeError" 240 (.ref 51), en P "MOST_COST" 244 (.int 200000000 243), en P "LONG_WORTH" 246 (.int 20000000 245), en P "SHORT_ROWS" 259 (.ref 60), en P "cost_of" 269 (.ref 67), en P "with_cost" 277 (.ref 74), en P "best_vector" 284 (.ref 81), en P "is_better" 292 (.ref 88), en P "is_from_same" 300 (.ref 95), en P "is_same_or_better_source" 308 (.ref 102), en P "own_vector" 316 (.ref 109)]) 22), List.toArray []⟩
noncomputable def o12_3 : Obj := ⟨.none, none, (.fields (List.toArray [(.int 1 0), (.int 0 0), (.ref 20), (.int 5 0), (.int 0 0), (.ref 27), (.int 10 0), (.int 0 0), (.ref 47), (.int 16 0), (.int 0 0), (.ref 66), (.int 25 0), (.int 0 0), (.ref 73), (.int 27 0), (.int 0 0), (.ref 80), (.int 29 0), (.int 0 0), (.ref 87), (.int 31 0), (.int 0 0), (.ref 94), (.int 33 0), (.int 0 0), (.ref 101), (.int 35 0), (.int 0 0), (.ref 108)])), List.toArray []⟩
noncomputable def o89 : Obj := ⟨(.type "tuple"), none, (.seq (List.toArray []) 0), List.toArray []⟩
noncomputable def o90 : Obj := ⟨.none, none, (.fields (List.toArray [])), List.toArray []⟩
noncomputable def o91 : Obj := ⟨(.type "tuple"), none, (.seq (List.toArray [(vs "vector" 296), (vs "other" 297)]) 0), List.toArray []⟩
noncomputable def o92 : Obj := ⟨(.type "tuple"), none, (.seq (List.toArray []) 0), List.toArray []⟩
noncomputable def o93 : Obj := ⟨.none, none, (.func (fd (sT 12) "is_from_same" 0 .none .none .none .none none .none .none 0)), List.toArray []⟩
noncomputable def o94 : Obj := ⟨(.type "code"), none, (.fields (List.toArray [(vs "is_from_same" 293), (vs "is_from_same" 294), (vs "/claim/cut.py" 295), (.int 31 0), (.int 2 0), (.int 0 0), (.int 0 0), (.int 3 0), (.ref 89), (.bool true), (.int 181 0), (.ref 90), .none, (.ref 91), (.ref 92), (.ref 93), (.int 298 0), (.int 31 0), (vs "/claim/cut.py" 299)])), List.toArray []⟩
noncomputable def o95 : Obj := ⟨(.type "function"), none, (.func (fd (sT 12) "is_from_same" 3 .none .none .none (vs "switchloom.vectors" 241) none (.ref 94) .none 0)), List.toArray []⟩
noncomputable def o96 : Obj := ⟨(.type "tuple"), none, (.seq (List.toArray []) 0), List.toArray []⟩
noncomputable def o97 : Obj := ⟨.none, none, (.fields (List.toArray [])), List.toArray []⟩
noncomputable def o98 : Obj := ⟨(.type "tuple"), none, (.seq (List.toArray [(vs "vector" 304), (vs "other" 305)]) 0), List.toArray []⟩
noncomputable def o99 : Obj := ⟨(.type "tuple"), none, (.seq (List.toArray []) 0), List.toArray []⟩
noncomputable def o100 : Obj := ⟨.none, none, (.func (fd (sT 13) "is_same_or_better_source" 0 .none .none .none .none none .none .none 0)), List.toArray []⟩
noncomputable def o101 : Obj := ⟨(.type "code"), none, (.fields (List.toArray [(vs "is_same_or_better_source" 301), (vs "is_same_or_better_source" 302), (vs "/claim/cut.py" 303), (.int 33 0), (.int 2 0), (.int 0 0), (.int 0 0), (.int 3 0), (.ref 96), (.bool true), (.int 181 0), (.ref 97), .none, (.ref 98), (.ref 99), (.ref 100), (.int 306 0), (.int 33 0), (vs "/claim/cut.py" 307)])), List.toArray []⟩
noncomputable def o102 : Obj := ⟨(.type "function"), none, (.func (fd (sT 13) "is_same_or_better_source" 3 .none .none .none (vs "switchloom.vectors" 241) none (.ref 101) .none 0)), List.toArray []⟩
noncomputable def o103 : Obj := ⟨(.type "tuple"), none, (.seq (List.toArray []) 0), List.toArray []⟩
noncomputable def o104 : Obj := ⟨.none, none, (.fields (List.toArray [])), List.toArray []⟩
noncomputable def o105 : Obj := ⟨(.type "tuple"), none, (.seq (List.toArray [(vs "bridge" 312), (vs "port_id" 313)]) 0), List.toArray []⟩
noncomputable def o106 : Obj := ⟨(.type "tuple"), none, (.seq (List.toArray []) 0), List.toArray []⟩
noncomputable def o107 : Obj := ⟨.none, none, (.func (fd (sT 14) "own_vector" 0 .none .none .none .none none .none .none 0)), List.toArray []⟩
noncomputable def o108 : Obj := ⟨(.type "code"), none, (.fields (List.toArray [(vs "own_vector" 309), (vs "own_vector" 310), (vs "/claim/cut.py" 311), (.int 35 0), (.int 2 0), (.int 0 0), (.int 0 0), (.int 3 0), (.ref 103), (.bool true), (.int 181 0), (.ref 104), .none, (.ref 105), (.ref 106), (.ref 107), (.int 314 0), (.int 35 0), (vs "/claim/cut.py" 315)])), List.toArray []⟩
noncomputable def o109 : Obj := ⟨(.type "function"), none, (.func (fd (sT 14) "own_vector" 3 .none .none .none (vs "switchloom.vectors" 241) none (.ref 108) .none 0)), List.toArray []⟩
noncomputable def H3 (P : Params) : Heap := ⟨List.toArray [boot_o_0 P, boot_o_1 P, o2_1 P, o3_3 P, boot_o_4 P, boot_o_5 P, boot_o_6 P, boot_o_7 P, boot_o_8 P, boot_o_9 P, boot_o_10 P, o11, o12_3, o13, o14, o15, o16, o17, o18, o19, o20, o21, o22, o23, o24 P, o25, o26, o27, o28, o29, o30, o31, o32, o33, o34, o35, o36, o37 P, o38_1, o39, o40, o41, o42, o43, o44 P, o45, o46, o47, o48, o49, o50 P, o51, o52, o53, o54, o55, o56, o57, o58, o59, o60, o61, o62, o63, o64, o65, o66, o67, o68, o69, o70, o71, o72, o73, o74, o75, o76, o77, o78, o79, o80, o81, o82, o83, o84, o85, o86, o87, o88, o89, o90, o91, o92, o93, o94, o95, o96, o97, o98, o99, o100, o101, o102, o103, o104, o105, o106, o107, o108, o109], {}⟩
noncomputable def o3_4 (P : Params) : Obj := ⟨(.type "dict"), none, (.dict (List.toArray [en P "__name__" 165 (vs "switchloom.rapid_port" 401), en P "__doc__" 166 .none, en P "__package__" 167 .none, en P "__loader__" 168 (ld P), en P "__spec__" 169 .none, en P "__annotations__" 170 (.ref 6), en P "__builtins__" 171 (.ref 4), en P "__file__" 173 (vs "/claim/cut.py" 172), en P "__cached__" 174 .none, en P "_wall" 193 (.ref 21), en P "SwitchError" 224 (.ref 38), en P "SizeError" 240 (.ref 51), en P "MOST_COST" 244 (.int 200000000 243), en P "LONG_WORTH" 246 (.int 20000000 245), en P "SHORT_ROWS" 259 (.ref 60), en P "cost_of" 269 (.ref 67), en P "with_cost" 277 (.ref 74), en P "best_vector" 284 (.ref 81), en P "is_better" 292 (.ref 88), en P "is_from_same" 300 (.ref 95), en P "is_same_or_better_source" 308 (.ref 102), en P "own_vector" 316 (.ref 109), en P "OldPort" 380 (.ref 147), en P "is_ours" 390 (.ref 158), en P "does_supersede" 400 (.ref 165)]) 25), List.toArray []⟩
noncomputable def o12_4 : Obj := ⟨.none, none, (.fields (List.toArray [(.int 1 0), (.int 0 0), (.ref 20), (.int 5 0), (.int 0 0), (.ref 27), (.int 10 0), (.int 0 0), (.ref 47), (.int 16 0), (.int 0 0), (.ref 66), (.int 25 0), (.int 0 0), (.ref 73), (.int 27 0), (.int 0 0), (.ref 80), (.int 29 0), (.int 0 0), (.ref 87), (.int 31 0), (.int 0 0), (.ref 94), (.int 33 0), (.int 0 0), (.ref 101), (.int 35 0), (.int 0 0), (.ref 108), (.int 38 0), (.int 0 0), (.ref 115), (.int 66 0), (.int 0 0), (.ref 157), (.int 70 0), (.int 0 0), (.ref 164)])), List.toArray []⟩
noncomputable def o110 : Obj := ⟨(.type "tuple"), none, (.seq (List.toArray []) 0), List.toArray []⟩
noncomputable def o111 : Obj := ⟨(.type "builtin_function_or_method"), none, (.fields (List.toArray [(.builtin "type.__prepare__"), (.type "type")])), List.toArray []⟩
noncomputable def o112 (P : Params) : Obj := ⟨(.type "dict"), none, (.dict (List.toArray [en P "__module__" 326 (vs "switchloom.old_port" 317), en P "__qualname__" 328 (vs "OldPort" 327), en P "__firstlineno__" 330 (.int 38 329), en P "__init__" 338 (.ref 123), en P "is_on" 345 (.ref 130), en P "begin" 354 (.ref 137), en P "is_designated" 362 (.ref 144), en P "__static_attributes__" 373 (.ref 145)]) 8), List.toArray []⟩
noncomputable def o113 : Obj := ⟨(.type "tuple"), none, (.seq (List.toArray []) 0), List.toArray []⟩
noncomputable def o114 : Obj := ⟨.none, none, (.fields (List.toArray [(.int 40 0), (.int 4 0), (.ref 122), (.int 52 0), (.int 4 0), (.ref 129), (.int 55 0), (.int 4 0), (.ref 136), (.int 64 0), (.int 4 0), (.ref 143)])), List.toArray []⟩
noncomputable def o115 : Obj := ⟨(.type "code"), none, (.fields (List.toArray [(vs "OldPort" 321), (vs "OldPort" 322), (vs "/claim/cut.py" 323), (.int 38 0), (.int 0 0), (.int 0 0), (.int 0 0), (.int 0 0), (.ref 113), (.bool false), (.int 181 0), (.ref 114), .none, .none, .none, .none, (.int 324 0), (.int 38 0), (vs "/claim/cut.py" 325)])), List.toArray []⟩
noncomputable def o116 : Obj := ⟨(.type "frame"), none, .plain, List.toArray [some (.ref 115), some (.ref 3), some (.ref 112), none, some (vs "switchloom.old_port" 317), none, some (.ref 0)]⟩
noncomputable def o117 : Obj := ⟨(.type "tuple"), none, (.seq (List.toArray []) 0), List.toArray []⟩
noncomputable def o118 : Obj := ⟨.none, none, (.fields (List.toArray [])), List.toArray []⟩
noncomputable def o119 : Obj := ⟨(.type "tuple"), none, (.seq (List.toArray [(vs "self" 334), (vs "row" 335)]) 0), List.toArray []⟩
noncomputable def o120 : Obj := ⟨(.type "tuple"), none, (.seq (List.toArray []) 0), List.toArray []⟩
noncomputable def o121 : Obj := ⟨.none, none, (.func (fd (sC 16 0) "OldPort.__init__" 0 .none .none .none .none none .none .none 0)), List.toArray []⟩
noncomputable def o122 : Obj := ⟨(.type "code"), none, (.fields (List.toArray [(vs "__init__" 331), (vs "OldPort.__init__" 332), (vs "/claim/cut.py" 333), (.int 40 0), (.int 2 0), (.int 0 0), (.int 0 0), (.int 3 0), (.ref 117), (.bool true), (.int 181 0), (.ref 118), .none, (.ref 119), (.ref 120), (.ref 121), (.int 336 0), (.int 40 0), (vs "/claim/cut.py" 337)])), List.toArray []⟩
noncomputable def o123 : Obj := ⟨(.type "function"), none, (.func (fd (sC 16 0) "OldPort.__init__" 3 .none .none .none (vs "switchloom.old_port" 317) none (.ref 122) .none 0)), List.toArray []⟩
noncomputable def o124 : Obj := ⟨(.type "tuple"), none, (.seq (List.toArray []) 0), List.toArray []⟩
noncomputable def o125 : Obj := ⟨.none, none, (.fields (List.toArray [])), List.toArray []⟩
noncomputable def o126 : Obj := ⟨(.type "tuple"), none, (.seq (List.toArray [(vs "self" 342)]) 0), List.toArray []⟩
noncomputable def o127 : Obj := ⟨(.type "tuple"), none, (.seq (List.toArray []) 0), List.toArray []⟩
noncomputable def o128 : Obj := ⟨.none, none, (.func (fd (sC 16 1) "OldPort.is_on" 0 .none .none .none .none none .none .none 0)), List.toArray []⟩
noncomputable def o129 : Obj := ⟨(.type "code"), none, (.fields (List.toArray [(vs "is_on" 339), (vs "OldPort.is_on" 340), (vs "/claim/cut.py" 341), (.int 52 0), (.int 1 0), (.int 0 0), (.int 0 0), (.int 3 0), (.ref 124), (.bool true), (.int 181 0), (.ref 125), .none, (.ref 126), (.ref 127), (.ref 128), (.int 343 0), (.int 52 0), (vs "/claim/cut.py" 344)])), List.toArray []⟩
noncomputable def o130 : Obj := ⟨(.type "function"), none, (.func (fd (sC 16 1) "OldPort.is_on" 3 .none .none .none (vs "switchloom.old_port" 317) none (.ref 129) .none 0)), List.toArray []⟩
noncomputable def o131 : Obj := ⟨(.type "tuple"), none, (.seq (List.toArray []) 0), List.toArray []⟩
noncomputable def o132 : Obj := ⟨.none, none, (.fields (List.toArray [])), List.toArray []⟩
noncomputable def o133 : Obj := ⟨(.type "tuple"), none, (.seq (List.toArray [(vs "self" 349), (vs "state" 350), (vs "vector" 351)]) 0), List.toArray []⟩
noncomputable def o134 : Obj := ⟨(.type "tuple"), none, (.seq (List.toArray []) 0), List.toArray []⟩
noncomputable def o135 : Obj := ⟨.none, none, (.func (fd (sC 16 2) "OldPort.begin" 0 .none .none .none .none none .none .none 0)), List.toArray []⟩
noncomputable def o136 : Obj := ⟨(.type "code"), none, (.fields (List.toArray [(vs "begin" 346), (vs "OldPort.begin" 347), (vs "/claim/cut.py" 348), (.int 55 0), (.int 3 0), (.int 0 0), (.int 0 0), (.int 3 0), (.ref 131), (.bool true), (.int 181 0), (.ref 132), .none, (.ref 133), (.ref 134), (.ref 135), (.int 352 0), (.int 55 0), (vs "/claim/cut.py" 353)])), List.toArray []⟩
noncomputable def o137 : Obj := ⟨(.type "function"), none, (.func (fd (sC 16 2) "OldPort.begin" 3 .none .none .none (vs "switchloom.old_port" 317) none (.ref 136) .none 0)), List.toArray []⟩
noncomputable def o138 : Obj := ⟨(.type "tuple"), none, (.seq (List.toArray []) 0), List.toArray []⟩
noncomputable def o139 : Obj := ⟨.none, none, (.fields (List.toArray [])), List.toArray []⟩
noncomputable def o140 : Obj := ⟨(.type "tuple"), none, (.seq (List.toArray [(vs "self" 358), (vs "bridge" 359)]) 0), List.toArray []⟩
noncomputable def o141 : Obj := ⟨(.type "tuple"), none, (.seq (List.toArray []) 0), List.toArray []⟩
noncomputable def o142 : Obj := ⟨.none, none, (.func (fd (sC 16 3) "OldPort.is_designated" 0 .none .none .none .none none .none .none 0)), List.toArray []⟩
noncomputable def o143 : Obj := ⟨(.type "code"), none, (.fields (List.toArray [(vs "is_designated" 355), (vs "OldPort.is_designated" 356), (vs "/claim/cut.py" 357), (.int 64 0), (.int 2 0), (.int 0 0), (.int 0 0), (.int 3 0), (.ref 138), (.bool true), (.int 181 0), (.ref 139), .none, (.ref 140), (.ref 141), (.ref 142), (.int 360 0), (.int 64 0), (vs "/claim/cut.py" 361)])), List.toArray []⟩
noncomputable def o144 : Obj := ⟨(.type "function"), none, (.func (fd (sC 16 3) "OldPort.is_designated" 3 .none .none .none (vs "switchloom.old_port" 317) none (.ref 143) .none 0)), List.toArray []⟩
noncomputable def o145 : Obj := ⟨(.type "tuple"), none, (.seq (List.toArray [(vs "age" 363), (vs "cost" 364), (vs "delay" 365), (vs "hold" 366), (vs "is_pending" 367), (vs "number" 368), (vs "owes_ack" 369), (vs "port_id" 370), (vs "state" 371), (vs "vector" 372)]) 0), List.toArray []⟩
noncomputable def o146 (P : Params) : Obj := ⟨(.type "dict"), none, (.dict (List.toArray [en P "__module__" 326 (vs "switchloom.old_port" 317), en P "__firstlineno__" 330 (.int 38 329), en P "__init__" 338 (.ref 123), en P "is_on" 345 (.ref 130), en P "begin" 354 (.ref 137), en P "is_designated" 362 (.ref 144), en P "__static_attributes__" 373 (.ref 145), en P "__dict__" 375 (.ref 148), en P "__weakref__" 377 (.ref 149), en P "__doc__" 378 .none]) 4), List.toArray []⟩
noncomputable def o147 : Obj := ⟨(.type "type"), none, (.cls ⟨Str.ofString "OldPort", [(.type "object")], [(.ref 147), (.type "object")], 146, Str.ofString "OldPort", true, [], [], false, none, false⟩), List.toArray [none, none, some (vs "OldPort" 319), some (vs "OldPort" 327), some (.builtin "object.__new__"), some (.bool true)]⟩
noncomputable def o148 : Obj := ⟨(.type "getset_descriptor"), none, (.fields (List.toArray [(vs "__dict__" 374), (.ref 147), (.builtin "function.__dict__"), (.builtin "function.__dict__#set")])), List.toArray []⟩
noncomputable def o149 : Obj := ⟨(.type "getset_descriptor"), none, (.fields (List.toArray [(vs "__weakref__" 376), (.ref 147), (.builtin "ExceptionGroup.__weakref__"), .none])), List.toArray []⟩
noncomputable def o150 : Obj := ⟨(.type "super"), none, (.fields (List.toArray [(.ref 147), (.ref 147), (.ref 147)])), List.toArray []⟩
noncomputable def o151 : Obj := ⟨(.type "builtin_function_or_method"), none, (.fields (List.toArray [(.builtin "object.__init_subclass__"), (.ref 147)])), List.toArray []⟩
noncomputable def o152 : Obj := ⟨(.type "tuple"), none, (.seq (List.toArray []) 0), List.toArray []⟩
noncomputable def o153 : Obj := ⟨.none, none, (.fields (List.toArray [])), List.toArray []⟩
noncomputable def o154 : Obj := ⟨(.type "tuple"), none, (.seq (List.toArray [(vs "port" 384), (vs "root" 385), (vs "cost" 386), (vs "bridge" 387)]) 0), List.toArray []⟩
noncomputable def o155 : Obj := ⟨(.type "tuple"), none, (.seq (List.toArray []) 0), List.toArray []⟩
noncomputable def o156 : Obj := ⟨.none, none, (.func (fd (sT 17) "is_ours" 0 .none .none .none .none none .none .none 0)), List.toArray []⟩
noncomputable def o157 : Obj := ⟨(.type "code"), none, (.fields (List.toArray [(vs "is_ours" 381), (vs "is_ours" 382), (vs "/claim/cut.py" 383), (.int 66 0), (.int 4 0), (.int 0 0), (.int 0 0), (.int 3 0), (.ref 152), (.bool true), (.int 181 0), (.ref 153), .none, (.ref 154), (.ref 155), (.ref 156), (.int 388 0), (.int 66 0), (vs "/claim/cut.py" 389)])), List.toArray []⟩
noncomputable def o158 : Obj := ⟨(.type "function"), none, (.func (fd (sT 17) "is_ours" 3 .none .none .none (vs "switchloom.old_port" 317) none (.ref 157) .none 0)), List.toArray []⟩
noncomputable def o159 : Obj := ⟨(.type "tuple"), none, (.seq (List.toArray []) 0), List.toArray []⟩
noncomputable def o160 : Obj := ⟨.none, none, (.fields (List.toArray [])), List.toArray []⟩
noncomputable def o161 : Obj := ⟨(.type "tuple"), none, (.seq (List.toArray [(vs "port" 394), (vs "vector" 395), (vs "bridge" 396), (vs "held" 397)]) 0), List.toArray []⟩
noncomputable def o162 : Obj := ⟨(.type "tuple"), none, (.seq (List.toArray []) 0), List.toArray []⟩
noncomputable def o163 : Obj := ⟨.none, none, (.func (fd (sT 18) "does_supersede" 0 .none .none .none .none none .none .none 0)), List.toArray []⟩
noncomputable def o164 : Obj := ⟨(.type "code"), none, (.fields (List.toArray [(vs "does_supersede" 391), (vs "does_supersede" 392), (vs "/claim/cut.py" 393), (.int 70 0), (.int 3 0), (.int 0 0), (.int 0 0), (.int 3 0), (.ref 159), (.bool true), (.int 181 0), (.ref 160), .none, (.ref 161), (.ref 162), (.ref 163), (.int 398 0), (.int 70 0), (vs "/claim/cut.py" 399)])), List.toArray []⟩
noncomputable def o165 : Obj := ⟨(.type "function"), none, (.func (fd (sT 18) "does_supersede" 3 .none .none .none (vs "switchloom.old_port" 317) none (.ref 164) .none 0)), List.toArray []⟩
noncomputable def H4 (P : Params) : Heap := ⟨List.toArray [boot_o_0 P, boot_o_1 P, o2_1 P, o3_4 P, boot_o_4 P, boot_o_5 P, boot_o_6 P, boot_o_7 P, boot_o_8 P, boot_o_9 P, boot_o_10 P, o11, o12_4, o13, o14, o15, o16, o17, o18, o19, o20, o21, o22, o23, o24 P, o25, o26, o27, o28, o29, o30, o31, o32, o33, o34, o35, o36, o37 P, o38_1, o39, o40, o41, o42, o43, o44 P, o45, o46, o47, o48, o49, o50 P, o51, o52, o53, o54, o55, o56, o57, o58, o59, o60, o61, o62, o63, o64, o65, o66, o67, o68, o69, o70, o71, o72, o73, o74, o75, o76, o77, o78, o79, o80, o81, o82, o83, o84, o85, o86, o87, o88, o89, o90, o91, o92, o93, o94, o95, o96, o97, o98, o99, o100, o101, o102, o103, o104, o105, o106, o107, o108, o109, o110, o111, o112 P, o113, o114, o115, o116, o117, o118, o119, o120, o121, o122, o123, o124, o125, o126, o127, o128, o129, o130, o131, o132, o133, o134, o135, o136, o137, o138, o139, o140, o141, o142, o143, o144, o145, o146 P, o147, o148, o149, o150, o151, o152, o153, o154, o155, o156, o157, o158, o159, o160, o161, o162, o163, o164, o165], {}⟩
noncomputable def o3_5 (P : Params) : Obj := ⟨(.type "dict"), none, (.dict (List.toArray [en P "__name__" 165 (vs "law_pb0537_01" 447), en P "__doc__" 166 .none, en P "__package__" 167 .none, en P "__loader__" 168 (ld P), en P "__spec__" 169 .none, en P "__annotations__" 170 (.ref 6), en P "__builtins__" 171 (.ref 4), en P "__file__" 173 (vs "/claim/cut.py" 172), en P "__cached__" 174 .none, en P "_wall" 193 (.ref 21), en P "SwitchError" 224 (.ref 38), en P "SizeError" 240 (.ref 51), en P "MOST_COST" 244 (.int 200000000 243), en P "LONG_WORTH" 246 (.int 20000000 245), en P "SHORT_ROWS" 259 (.ref 60), en P "cost_of" 269 (.ref 67), en P "with_cost" 277 (.ref 74), en P "best_vector" 284 (.ref 81), en P "is_better" 292 (.ref 88), en P "is_from_same" 300 (.ref 95), en P "is_same_or_better_source" 308 (.ref 102), en P "own_vector" 316 (.ref 109), en P "OldPort" 380 (.ref 147), en P "is_ours" 390 (.ref 158), en P "does_supersede" 400 (.ref 165), en P "PortRow" 446 (.ref 190), en P "_law_pool" 457 (.ref 201), en P "_law_take" 466 (.ref 208), en P "_law_one" 474 (.ref 215), en P "_law_bridge" 481 (.ref 222)]) 30), List.toArray []⟩
noncomputable def o12_5 : Obj := ⟨.none, none, (.fields (List.toArray [(.int 1 0), (.int 0 0), (.ref 20), (.int 5 0), (.int 0 0), (.ref 27), (.int 10 0), (.int 0 0), (.ref 47), (.int 16 0), (.int 0 0), (.ref 66), (.int 25 0), (.int 0 0), (.ref 73), (.int 27 0), (.int 0 0), (.ref 80), (.int 29 0), (.int 0 0), (.ref 87), (.int 31 0), (.int 0 0), (.ref 94), (.int 33 0), (.int 0 0), (.ref 101), (.int 35 0), (.int 0 0), (.ref 108), (.int 38 0), (.int 0 0), (.ref 115), (.int 66 0), (.int 0 0), (.ref 157), (.int 70 0), (.int 0 0), (.ref 164), (.int 76 0), (.int 0 0), (.ref 171), (.int 88 0), (.int 0 0), (.ref 200), (.int 92 0), (.int 0 0), (.ref 207), (.int 99 0), (.int 0 0), (.ref 214), (.int 101 0), (.int 0 0), (.ref 221)])), List.toArray []⟩
noncomputable def o166 : Obj := ⟨(.type "tuple"), none, (.seq (List.toArray []) 0), List.toArray []⟩
noncomputable def o167 : Obj := ⟨(.type "builtin_function_or_method"), none, (.fields (List.toArray [(.builtin "type.__prepare__"), (.type "type")])), List.toArray []⟩
noncomputable def o168 (P : Params) : Obj := ⟨(.type "dict"), none, (.dict (List.toArray [en P "__module__" 410 (vs "switchloom.rapid_port" 401), en P "__qualname__" 412 (vs "PortRow" 411), en P "__firstlineno__" 414 (.int 76 413), en P "__init__" 426 (.ref 180), en P "port_id" 433 (.ref 187), en P "__static_attributes__" 439 (.ref 188)]) 6), List.toArray []⟩
noncomputable def o169 : Obj := ⟨(.type "tuple"), none, (.seq (List.toArray []) 0), List.toArray []⟩
noncomputable def o170 : Obj := ⟨.none, none, (.fields (List.toArray [(.int 78 0), (.int 4 0), (.ref 179), (.int 85 0), (.int 4 0), (.ref 186)])), List.toArray []⟩
noncomputable def o171 : Obj := ⟨(.type "code"), none, (.fields (List.toArray [(vs "PortRow" 405), (vs "PortRow" 406), (vs "/claim/cut.py" 407), (.int 76 0), (.int 0 0), (.int 0 0), (.int 0 0), (.int 0 0), (.ref 169), (.bool false), (.int 181 0), (.ref 170), .none, .none, .none, .none, (.int 408 0), (.int 76 0), (vs "/claim/cut.py" 409)])), List.toArray []⟩
noncomputable def o172 : Obj := ⟨(.type "frame"), none, .plain, List.toArray [some (.ref 171), some (.ref 3), some (.ref 168), none, some (vs "switchloom.rapid_port" 401), none, some (.ref 0)]⟩
noncomputable def o173 : Obj := ⟨(.type "tuple"), none, (.seq (List.toArray [(.bool false), (.bool true)]) 0), List.toArray []⟩
noncomputable def o174 : Obj := ⟨(.type "tuple"), none, (.seq (List.toArray []) 0), List.toArray []⟩
noncomputable def o175 : Obj := ⟨.none, none, (.fields (List.toArray [])), List.toArray []⟩
noncomputable def o176 : Obj := ⟨(.type "tuple"), none, (.seq (List.toArray [(vs "self" 418), (vs "number" 419), (vs "priority" 420), (vs "cost" 421), (vs "is_edge" 422), (vs "is_straight" 423)]) 0), List.toArray []⟩
noncomputable def o177 : Obj := ⟨(.type "tuple"), none, (.seq (List.toArray []) 0), List.toArray []⟩
noncomputable def o178 : Obj := ⟨.none, none, (.func (fd (sC 20 0) "PortRow.__init__" 0 .none .none .none .none none .none .none 0)), List.toArray []⟩
noncomputable def o179 : Obj := ⟨(.type "code"), none, (.fields (List.toArray [(vs "__init__" 415), (vs "PortRow.__init__" 416), (vs "/claim/cut.py" 417), (.int 78 0), (.int 6 0), (.int 0 0), (.int 0 0), (.int 3 0), (.ref 174), (.bool true), (.int 181 0), (.ref 175), .none, (.ref 176), (.ref 177), (.ref 178), (.int 424 0), (.int 78 0), (vs "/claim/cut.py" 425)])), List.toArray []⟩
noncomputable def o180 : Obj := ⟨(.type "function"), none, (.func (fd (sC 20 0) "PortRow.__init__" 3 (.ref 173) .none .none (vs "switchloom.rapid_port" 401) none (.ref 179) .none 0)), List.toArray []⟩
noncomputable def o181 : Obj := ⟨(.type "tuple"), none, (.seq (List.toArray []) 0), List.toArray []⟩
noncomputable def o182 : Obj := ⟨.none, none, (.fields (List.toArray [])), List.toArray []⟩
noncomputable def o183 : Obj := ⟨(.type "tuple"), none, (.seq (List.toArray [(vs "self" 430)]) 0), List.toArray []⟩
noncomputable def o184 : Obj := ⟨(.type "tuple"), none, (.seq (List.toArray []) 0), List.toArray []⟩
noncomputable def o185 : Obj := ⟨.none, none, (.func (fd (sC 20 1) "PortRow.port_id" 0 .none .none .none .none none .none .none 0)), List.toArray []⟩
noncomputable def o186 : Obj := ⟨(.type "code"), none, (.fields (List.toArray [(vs "port_id" 427), (vs "PortRow.port_id" 428), (vs "/claim/cut.py" 429), (.int 85 0), (.int 1 0), (.int 0 0), (.int 0 0), (.int 3 0), (.ref 181), (.bool true), (.int 181 0), (.ref 182), .none, (.ref 183), (.ref 184), (.ref 185), (.int 431 0), (.int 85 0), (vs "/claim/cut.py" 432)])), List.toArray []⟩
noncomputable def o187 : Obj := ⟨(.type "function"), none, (.func (fd (sC 20 1) "PortRow.port_id" 3 .none .none .none (vs "switchloom.rapid_port" 401) none (.ref 186) .none 0)), List.toArray []⟩
noncomputable def o188 : Obj := ⟨(.type "tuple"), none, (.seq (List.toArray [(vs "cost" 434), (vs "is_edge" 435), (vs "is_straight" 436), (vs "number" 437), (vs "priority" 438)]) 0), List.toArray []⟩
noncomputable def o189 (P : Params) : Obj := ⟨(.type "dict"), none, (.dict (List.toArray [en P "__module__" 410 (vs "switchloom.rapid_port" 401), en P "__firstlineno__" 414 (.int 76 413), en P "__init__" 426 (.ref 180), en P "port_id" 433 (.ref 187), en P "__static_attributes__" 439 (.ref 188), en P "__dict__" 441 (.ref 191), en P "__weakref__" 443 (.ref 192), en P "__doc__" 444 .none]) 4), List.toArray []⟩
noncomputable def o190 : Obj := ⟨(.type "type"), none, (.cls ⟨Str.ofString "PortRow", [(.type "object")], [(.ref 190), (.type "object")], 189, Str.ofString "PortRow", true, [], [], false, none, false⟩), List.toArray [none, none, some (vs "PortRow" 403), some (vs "PortRow" 411), some (.builtin "object.__new__"), some (.bool true)]⟩
noncomputable def o191 : Obj := ⟨(.type "getset_descriptor"), none, (.fields (List.toArray [(vs "__dict__" 440), (.ref 190), (.builtin "function.__dict__"), (.builtin "function.__dict__#set")])), List.toArray []⟩
noncomputable def o192 : Obj := ⟨(.type "getset_descriptor"), none, (.fields (List.toArray [(vs "__weakref__" 442), (.ref 190), (.builtin "ExceptionGroup.__weakref__"), .none])), List.toArray []⟩
noncomputable def o193 : Obj := ⟨(.type "super"), none, (.fields (List.toArray [(.ref 190), (.ref 190), (.ref 190)])), List.toArray []⟩
noncomputable def o194 : Obj := ⟨(.type "builtin_function_or_method"), none, (.fields (List.toArray [(.builtin "object.__init_subclass__"), (.ref 190)])), List.toArray []⟩
noncomputable def o195 : Obj := ⟨(.type "tuple"), none, (.seq (List.toArray []) 0), List.toArray []⟩
noncomputable def o196 : Obj := ⟨.none, none, (.fields (List.toArray [])), List.toArray []⟩
noncomputable def o197 : Obj := ⟨(.type "tuple"), none, (.seq (List.toArray [(vs "script" 452), (vs "script_cell" 453), (vs "large" 454)]) 0), List.toArray []⟩
noncomputable def o198 : Obj := ⟨(.type "tuple"), none, (.seq (List.toArray []) 0), List.toArray []⟩
noncomputable def o199 : Obj := ⟨.none, none, (.func (fd (sT 22) "_law_pool" 0 .none .none .none .none none .none .none 0)), List.toArray []⟩
noncomputable def o200 : Obj := ⟨(.type "code"), none, (.fields (List.toArray [(vs "_law_pool" 449), (vs "_law_pool" 450), (vs "/claim/cut.py" 451), (.int 88 0), (.int 1 0), (.int 0 0), (.int 0 0), (.int 3 0), (.ref 195), (.bool true), (.int 181 0), (.ref 196), .none, (.ref 197), (.ref 198), (.ref 199), (.int 455 0), (.int 88 0), (vs "/claim/cut.py" 456)])), List.toArray []⟩
noncomputable def o201 : Obj := ⟨(.type "function"), none, (.func (fd (sT 22) "_law_pool" 3 .none .none .none (vs "law_pb0537_01" 447) none (.ref 200) .none 0)), List.toArray []⟩
noncomputable def o202 : Obj := ⟨(.type "tuple"), none, (.seq (List.toArray []) 0), List.toArray []⟩
noncomputable def o203 : Obj := ⟨.none, none, (.fields (List.toArray [])), List.toArray []⟩
noncomputable def o204 : Obj := ⟨(.type "tuple"), none, (.seq (List.toArray [(vs "source" 461), (vs "top" 462), (vs "digit" 463)]) 0), List.toArray []⟩
noncomputable def o205 : Obj := ⟨(.type "tuple"), none, (.seq (List.toArray []) 0), List.toArray []⟩
noncomputable def o206 : Obj := ⟨.none, none, (.func (fd (sT 23) "_law_take" 0 .none .none .none .none none .none .none 0)), List.toArray []⟩
noncomputable def o207 : Obj := ⟨(.type "code"), none, (.fields (List.toArray [(vs "_law_take" 458), (vs "_law_take" 459), (vs "/claim/cut.py" 460), (.int 92 0), (.int 2 0), (.int 0 0), (.int 0 0), (.int 3 0), (.ref 202), (.bool true), (.int 181 0), (.ref 203), .none, (.ref 204), (.ref 205), (.ref 206), (.int 464 0), (.int 92 0), (vs "/claim/cut.py" 465)])), List.toArray []⟩
noncomputable def o208 : Obj := ⟨(.type "function"), none, (.func (fd (sT 23) "_law_take" 3 .none .none .none (vs "law_pb0537_01" 447) none (.ref 207) .none 0)), List.toArray []⟩
noncomputable def o209 : Obj := ⟨(.type "tuple"), none, (.seq (List.toArray []) 0), List.toArray []⟩
noncomputable def o210 : Obj := ⟨.none, none, (.fields (List.toArray [])), List.toArray []⟩
noncomputable def o211 : Obj := ⟨(.type "tuple"), none, (.seq (List.toArray [(vs "source" 470), (vs "things" 471)]) 0), List.toArray []⟩
noncomputable def o212 : Obj := ⟨(.type "tuple"), none, (.seq (List.toArray []) 0), List.toArray []⟩
noncomputable def o213 : Obj := ⟨.none, none, (.func (fd (sT 24) "_law_one" 0 .none .none .none .none none .none .none 0)), List.toArray []⟩
noncomputable def o214 : Obj := ⟨(.type "code"), none, (.fields (List.toArray [(vs "_law_one" 467), (vs "_law_one" 468), (vs "/claim/cut.py" 469), (.int 99 0), (.int 2 0), (.int 0 0), (.int 0 0), (.int 3 0), (.ref 209), (.bool true), (.int 181 0), (.ref 210), .none, (.ref 211), (.ref 212), (.ref 213), (.int 472 0), (.int 99 0), (vs "/claim/cut.py" 473)])), List.toArray []⟩
noncomputable def o215 : Obj := ⟨(.type "function"), none, (.func (fd (sT 24) "_law_one" 3 .none .none .none (vs "law_pb0537_01" 447) none (.ref 214) .none 0)), List.toArray []⟩
noncomputable def o216 : Obj := ⟨(.type "tuple"), none, (.seq (List.toArray []) 0), List.toArray []⟩
noncomputable def o217 : Obj := ⟨.none, none, (.fields (List.toArray [])), List.toArray []⟩
noncomputable def o218 : Obj := ⟨(.type "tuple"), none, (.seq (List.toArray [(vs "source" 478)]) 0), List.toArray []⟩
noncomputable def o219 : Obj := ⟨(.type "tuple"), none, (.seq (List.toArray []) 0), List.toArray []⟩
noncomputable def o220 : Obj := ⟨.none, none, (.func (fd (sT 25) "_law_bridge" 0 .none .none .none .none none .none .none 0)), List.toArray []⟩
noncomputable def o221 : Obj := ⟨(.type "code"), none, (.fields (List.toArray [(vs "_law_bridge" 475), (vs "_law_bridge" 476), (vs "/claim/cut.py" 477), (.int 101 0), (.int 1 0), (.int 0 0), (.int 0 0), (.int 3 0), (.ref 216), (.bool true), (.int 181 0), (.ref 217), .none, (.ref 218), (.ref 219), (.ref 220), (.int 479 0), (.int 101 0), (vs "/claim/cut.py" 480)])), List.toArray []⟩
noncomputable def o222 : Obj := ⟨(.type "function"), none, (.func (fd (sT 25) "_law_bridge" 3 .none .none .none (vs "law_pb0537_01" 447) none (.ref 221) .none 0)), List.toArray []⟩
noncomputable def H5 (P : Params) : Heap := ⟨List.toArray [boot_o_0 P, boot_o_1 P, o2_1 P, o3_5 P, boot_o_4 P, boot_o_5 P, boot_o_6 P, boot_o_7 P, boot_o_8 P, boot_o_9 P, boot_o_10 P, o11, o12_5, o13, o14, o15, o16, o17, o18, o19, o20, o21, o22, o23, o24 P, o25, o26, o27, o28, o29, o30, o31, o32, o33, o34, o35, o36, o37 P, o38_1, o39, o40, o41, o42, o43, o44 P, o45, o46, o47, o48, o49, o50 P, o51, o52, o53, o54, o55, o56, o57, o58, o59, o60, o61, o62, o63, o64, o65, o66, o67, o68, o69, o70, o71, o72, o73, o74, o75, o76, o77, o78, o79, o80, o81, o82, o83, o84, o85, o86, o87, o88, o89, o90, o91, o92, o93, o94, o95, o96, o97, o98, o99, o100, o101, o102, o103, o104, o105, o106, o107, o108, o109, o110, o111, o112 P, o113, o114, o115, o116, o117, o118, o119, o120, o121, o122, o123, o124, o125, o126, o127, o128, o129, o130, o131, o132, o133, o134, o135, o136, o137, o138, o139, o140, o141, o142, o143, o144, o145, o146 P, o147, o148, o149, o150, o151, o152, o153, o154, o155, o156, o157, o158, o159, o160, o161, o162, o163, o164, o165, o166, o167, o168 P, o169, o170, o171, o172, o173, o174, o175, o176, o177, o178, o179, o180, o181, o182, o183, o184, o185, o186, o187, o188, o189 P, o190, o191, o192, o193, o194, o195, o196, o197, o198, o199, o200, o201, o202, o203, o204, o205, o206, o207, o208, o209, o210, o211, o212, o213, o214, o215, o216, o217, o218, o219, o220, o221, o222], {}⟩
noncomputable def o3_6 (P : Params) : Obj := ⟨(.type "dict"), none, (.dict (List.toArray [en P "__name__" 165 (vs "law_pb0537_01" 447), en P "__doc__" 166 .none, en P "__package__" 167 .none, en P "__loader__" 168 (ld P), en P "__spec__" 169 .none, en P "__annotations__" 170 (.ref 6), en P "__builtins__" 171 (.ref 4), en P "__file__" 173 (vs "/claim/cut.py" 172), en P "__cached__" 174 .none, en P "_wall" 193 (.ref 21), en P "SwitchError" 224 (.ref 38), en P "SizeError" 240 (.ref 51), en P "MOST_COST" 244 (.int 200000000 243), en P "LONG_WORTH" 246 (.int 20000000 245), en P "SHORT_ROWS" 259 (.ref 60), en P "cost_of" 269 (.ref 67), en P "with_cost" 277 (.ref 74), en P "best_vector" 284 (.ref 81), en P "is_better" 292 (.ref 88), en P "is_from_same" 300 (.ref 95), en P "is_same_or_better_source" 308 (.ref 102), en P "own_vector" 316 (.ref 109), en P "OldPort" 380 (.ref 147), en P "is_ours" 390 (.ref 158), en P "does_supersede" 400 (.ref 165), en P "PortRow" 446 (.ref 190), en P "_law_pool" 457 (.ref 201), en P "_law_take" 466 (.ref 208), en P "_law_one" 474 (.ref 215), en P "_law_bridge" 481 (.ref 222), en P "_law_vector" 488 (.ref 229), en P "_law_parts" 495 (.ref 236), en P "_law_is_less" 505 (.ref 243), en P "_law_pair_right" 516 (.ref 250), en P "_law_short" 522 (.ref 255), en P "_law_costs_right" 531 (.ref 262), en P "_law_is_at_most" 541 (.ref 269), en P "_law_old_right" 559 (.ref 276), en P "law" 565 (.ref 281)]) 39), List.toArray []⟩
noncomputable def o12_6 : Obj := ⟨.none, none, (.fields (List.toArray [(.int 1 0), (.int 0 0), (.ref 20), (.int 5 0), (.int 0 0), (.ref 27), (.int 10 0), (.int 0 0), (.ref 47), (.int 16 0), (.int 0 0), (.ref 66), (.int 25 0), (.int 0 0), (.ref 73), (.int 27 0), (.int 0 0), (.ref 80), (.int 29 0), (.int 0 0), (.ref 87), (.int 31 0), (.int 0 0), (.ref 94), (.int 33 0), (.int 0 0), (.ref 101), (.int 35 0), (.int 0 0), (.ref 108), (.int 38 0), (.int 0 0), (.ref 115), (.int 66 0), (.int 0 0), (.ref 157), (.int 70 0), (.int 0 0), (.ref 164), (.int 76 0), (.int 0 0), (.ref 171), (.int 88 0), (.int 0 0), (.ref 200), (.int 92 0), (.int 0 0), (.ref 207), (.int 99 0), (.int 0 0), (.ref 214), (.int 101 0), (.int 0 0), (.ref 221), (.int 103 0), (.int 0 0), (.ref 228), (.int 105 0), (.int 0 0), (.ref 235), (.int 107 0), (.int 0 0), (.ref 242), (.int 112 0), (.int 0 0), (.ref 249), (.int 118 0), (.int 0 0), (.ref 254), (.int 122 0), (.int 0 0), (.ref 261), (.int 132 0), (.int 0 0), (.ref 268), (.int 137 0), (.int 0 0), (.ref 275), (.int 152 0), (.int 0 0), (.ref 280)])), List.toArray []⟩
noncomputable def o223 : Obj := ⟨(.type "tuple"), none, (.seq (List.toArray []) 0), List.toArray []⟩
noncomputable def o224 : Obj := ⟨.none, none, (.fields (List.toArray [])), List.toArray []⟩
noncomputable def o225 : Obj := ⟨(.type "tuple"), none, (.seq (List.toArray [(vs "source" 485)]) 0), List.toArray []⟩
noncomputable def o226 : Obj := ⟨(.type "tuple"), none, (.seq (List.toArray []) 0), List.toArray []⟩
noncomputable def o227 : Obj := ⟨.none, none, (.func (fd (sT 26) "_law_vector" 0 .none .none .none .none none .none .none 0)), List.toArray []⟩
noncomputable def o228 : Obj := ⟨(.type "code"), none, (.fields (List.toArray [(vs "_law_vector" 482), (vs "_law_vector" 483), (vs "/claim/cut.py" 484), (.int 103 0), (.int 1 0), (.int 0 0), (.int 0 0), (.int 3 0), (.ref 223), (.bool true), (.int 181 0), (.ref 224), .none, (.ref 225), (.ref 226), (.ref 227), (.int 486 0), (.int 103 0), (vs "/claim/cut.py" 487)])), List.toArray []⟩
noncomputable def o229 : Obj := ⟨(.type "function"), none, (.func (fd (sT 26) "_law_vector" 3 .none .none .none (vs "law_pb0537_01" 447) none (.ref 228) .none 0)), List.toArray []⟩
noncomputable def o230 : Obj := ⟨(.type "tuple"), none, (.seq (List.toArray []) 0), List.toArray []⟩
noncomputable def o231 : Obj := ⟨.none, none, (.fields (List.toArray [])), List.toArray []⟩
noncomputable def o232 : Obj := ⟨(.type "tuple"), none, (.seq (List.toArray [(vs "told" 492)]) 0), List.toArray []⟩
noncomputable def o233 : Obj := ⟨(.type "tuple"), none, (.seq (List.toArray []) 0), List.toArray []⟩
noncomputable def o234 : Obj := ⟨.none, none, (.func (fd (sT 27) "_law_parts" 0 .none .none .none .none none .none .none 0)), List.toArray []⟩
noncomputable def o235 : Obj := ⟨(.type "code"), none, (.fields (List.toArray [(vs "_law_parts" 489), (vs "_law_parts" 490), (vs "/claim/cut.py" 491), (.int 105 0), (.int 1 0), (.int 0 0), (.int 0 0), (.int 3 0), (.ref 230), (.bool true), (.int 181 0), (.ref 231), .none, (.ref 232), (.ref 233), (.ref 234), (.int 493 0), (.int 105 0), (vs "/claim/cut.py" 494)])), List.toArray []⟩
noncomputable def o236 : Obj := ⟨(.type "function"), none, (.func (fd (sT 27) "_law_parts" 3 .none .none .none (vs "law_pb0537_01" 447) none (.ref 235) .none 0)), List.toArray []⟩
noncomputable def o237 : Obj := ⟨(.type "tuple"), none, (.seq (List.toArray []) 0), List.toArray []⟩
noncomputable def o238 : Obj := ⟨.none, none, (.fields (List.toArray [])), List.toArray []⟩
noncomputable def o239 : Obj := ⟨(.type "tuple"), none, (.seq (List.toArray [(vs "one" 499), (vs "other" 500), (vs "left" 501), (vs "right" 502)]) 0), List.toArray []⟩
noncomputable def o240 : Obj := ⟨(.type "tuple"), none, (.seq (List.toArray []) 0), List.toArray []⟩
noncomputable def o241 : Obj := ⟨.none, none, (.func (fd (sT 28) "_law_is_less" 0 .none .none .none .none none .none .none 0)), List.toArray []⟩
noncomputable def o242 : Obj := ⟨(.type "code"), none, (.fields (List.toArray [(vs "_law_is_less" 496), (vs "_law_is_less" 497), (vs "/claim/cut.py" 498), (.int 107 0), (.int 2 0), (.int 0 0), (.int 0 0), (.int 3 0), (.ref 237), (.bool true), (.int 181 0), (.ref 238), .none, (.ref 239), (.ref 240), (.ref 241), (.int 503 0), (.int 107 0), (vs "/claim/cut.py" 504)])), List.toArray []⟩
noncomputable def o243 : Obj := ⟨(.type "function"), none, (.func (fd (sT 28) "_law_is_less" 3 .none .none .none (vs "law_pb0537_01" 447) none (.ref 242) .none 0)), List.toArray []⟩
noncomputable def o244 : Obj := ⟨(.type "tuple"), none, (.seq (List.toArray []) 0), List.toArray []⟩
noncomputable def o245 : Obj := ⟨.none, none, (.fields (List.toArray [])), List.toArray []⟩
noncomputable def o246 : Obj := ⟨(.type "tuple"), none, (.seq (List.toArray [(vs "one" 509), (vs "other" 510), (vs "less" 511), (vs "alike" 512), (vs "is_one_port" 513)]) 0), List.toArray []⟩
noncomputable def o247 : Obj := ⟨(.type "tuple"), none, (.seq (List.toArray []) 0), List.toArray []⟩
noncomputable def o248 : Obj := ⟨.none, none, (.func (fd (sT 29) "_law_pair_right" 0 .none .none .none .none none .none .none 0)), List.toArray []⟩
noncomputable def o249 : Obj := ⟨(.type "code"), none, (.fields (List.toArray [(vs "_law_pair_right" 506), (vs "_law_pair_right" 507), (vs "/claim/cut.py" 508), (.int 112 0), (.int 2 0), (.int 0 0), (.int 0 0), (.int 3 0), (.ref 244), (.bool true), (.int 181 0), (.ref 245), .none, (.ref 246), (.ref 247), (.ref 248), (.int 514 0), (.int 112 0), (vs "/claim/cut.py" 515)])), List.toArray []⟩
noncomputable def o250 : Obj := ⟨(.type "function"), none, (.func (fd (sT 29) "_law_pair_right" 3 .none .none .none (vs "law_pb0537_01" 447) none (.ref 249) .none 0)), List.toArray []⟩
noncomputable def o251 : Obj := ⟨(.type "tuple"), none, (.seq (List.toArray []) 0), List.toArray []⟩
noncomputable def o252 : Obj := ⟨.none, none, (.fields (List.toArray [])), List.toArray []⟩
noncomputable def o253 : Obj := ⟨.none, none, (.func (fd (sT 30) "_law_short" 0 .none .none .none .none none .none .none 0)), List.toArray []⟩
noncomputable def o254 : Obj := ⟨(.type "code"), none, (.fields (List.toArray [(vs "_law_short" 517), (vs "_law_short" 518), (vs "/claim/cut.py" 519), (.int 118 0), (.int 1 0), (.int 0 0), (.int 0 0), (.int 3 0), (.ref 251), (.bool true), (.int 181 0), (.ref 252), .none, .none, .none, (.ref 253), (.int 520 0), (.int 118 0), (vs "/claim/cut.py" 521)])), List.toArray []⟩
noncomputable def o255 : Obj := ⟨(.type "function"), none, (.func (fd (sT 30) "_law_short" 3 .none .none .none (vs "law_pb0537_01" 447) none (.ref 254) .none 0)), List.toArray []⟩
noncomputable def o256 : Obj := ⟨(.type "tuple"), none, (.seq (List.toArray []) 0), List.toArray []⟩
noncomputable def o257 : Obj := ⟨.none, none, (.fields (List.toArray [])), List.toArray []⟩
noncomputable def o258 : Obj := ⟨(.type "tuple"), none, (.seq (List.toArray [(vs "source" 526), (vs "speed" 527), (vs "long_due" 528)]) 0), List.toArray []⟩
noncomputable def o259 : Obj := ⟨(.type "tuple"), none, (.seq (List.toArray []) 0), List.toArray []⟩
noncomputable def o260 : Obj := ⟨.none, none, (.func (fd (sT 31) "_law_costs_right" 0 .none .none .none .none none .none .none 0)), List.toArray []⟩
noncomputable def o261 : Obj := ⟨(.type "code"), none, (.fields (List.toArray [(vs "_law_costs_right" 523), (vs "_law_costs_right" 524), (vs "/claim/cut.py" 525), (.int 122 0), (.int 1 0), (.int 0 0), (.int 0 0), (.int 3 0), (.ref 256), (.bool true), (.int 181 0), (.ref 257), .none, (.ref 258), (.ref 259), (.ref 260), (.int 529 0), (.int 122 0), (vs "/claim/cut.py" 530)])), List.toArray []⟩
noncomputable def o262 : Obj := ⟨(.type "function"), none, (.func (fd (sT 31) "_law_costs_right" 3 .none .none .none (vs "law_pb0537_01" 447) none (.ref 261) .none 0)), List.toArray []⟩
noncomputable def o263 : Obj := ⟨(.type "tuple"), none, (.seq (List.toArray []) 0), List.toArray []⟩
noncomputable def o264 : Obj := ⟨.none, none, (.fields (List.toArray [])), List.toArray []⟩
noncomputable def o265 : Obj := ⟨(.type "tuple"), none, (.seq (List.toArray [(vs "one" 535), (vs "other" 536), (vs "left" 537), (vs "right" 538)]) 0), List.toArray []⟩
noncomputable def o266 : Obj := ⟨(.type "tuple"), none, (.seq (List.toArray []) 0), List.toArray []⟩
noncomputable def o267 : Obj := ⟨.none, none, (.func (fd (sT 32) "_law_is_at_most" 0 .none .none .none .none none .none .none 0)), List.toArray []⟩
noncomputable def o268 : Obj := ⟨(.type "code"), none, (.fields (List.toArray [(vs "_law_is_at_most" 532), (vs "_law_is_at_most" 533), (vs "/claim/cut.py" 534), (.int 132 0), (.int 2 0), (.int 0 0), (.int 0 0), (.int 3 0), (.ref 263), (.bool true), (.int 181 0), (.ref 264), .none, (.ref 265), (.ref 266), (.ref 267), (.int 539 0), (.int 132 0), (vs "/claim/cut.py" 540)])), List.toArray []⟩
noncomputable def o269 : Obj := ⟨(.type "function"), none, (.func (fd (sT 32) "_law_is_at_most" 3 .none .none .none (vs "law_pb0537_01" 447) none (.ref 268) .none 0)), List.toArray []⟩
noncomputable def o270 : Obj := ⟨(.type "tuple"), none, (.seq (List.toArray []) 0), List.toArray []⟩
noncomputable def o271 : Obj := ⟨.none, none, (.fields (List.toArray [])), List.toArray []⟩
noncomputable def o272 : Obj := ⟨(.type "tuple"), none, (.seq (List.toArray [(vs "source" 545), (vs "one" 546), (vs "other" 547), (vs "near" 548), (vs "port" 549), (vs "heads" 550), (vs "due" 551), (vs "root" 552), (vs "cost" 553), (vs "mine" 554), (vs "theirs" 555), (vs "is_telling" 556)]) 0), List.toArray []⟩
noncomputable def o273 : Obj := ⟨(.type "tuple"), none, (.seq (List.toArray []) 0), List.toArray []⟩
noncomputable def o274 : Obj := ⟨.none, none, (.func (fd (sT 33) "_law_old_right" 0 .none .none .none .none none .none .none 0)), List.toArray []⟩
noncomputable def o275 : Obj := ⟨(.type "code"), none, (.fields (List.toArray [(vs "_law_old_right" 542), (vs "_law_old_right" 543), (vs "/claim/cut.py" 544), (.int 137 0), (.int 3 0), (.int 0 0), (.int 0 0), (.int 3 0), (.ref 270), (.bool true), (.int 181 0), (.ref 271), .none, (.ref 272), (.ref 273), (.ref 274), (.int 557 0), (.int 137 0), (vs "/claim/cut.py" 558)])), List.toArray []⟩
noncomputable def o276 : Obj := ⟨(.type "function"), none, (.func (fd (sT 33) "_law_old_right" 3 .none .none .none (vs "law_pb0537_01" 447) none (.ref 275) .none 0)), List.toArray []⟩
noncomputable def o277 : Obj := ⟨(.type "tuple"), none, (.seq (List.toArray []) 0), List.toArray []⟩
noncomputable def o278 : Obj := ⟨.none, none, (.fields (List.toArray [])), List.toArray []⟩
noncomputable def o279 : Obj := ⟨.none, none, (.func (fd (sT 34) "law" 0 .none .none .none .none none .none .none 0)), List.toArray []⟩
noncomputable def o280 : Obj := ⟨(.type "code"), none, (.fields (List.toArray [(vs "law" 560), (vs "law" 561), (vs "/claim/cut.py" 562), (.int 152 0), (.int 1 0), (.int 0 0), (.int 0 0), (.int 3 0), (.ref 277), (.bool true), (.int 181 0), (.ref 278), .none, .none, .none, (.ref 279), (.int 563 0), (.int 152 0), (vs "/claim/cut.py" 564)])), List.toArray []⟩
noncomputable def o281 : Obj := ⟨(.type "function"), none, (.func (fd (sT 34) "law" 3 .none .none .none (vs "law_pb0537_01" 447) none (.ref 280) .none 0)), List.toArray []⟩
noncomputable def H6 (P : Params) : Heap := ⟨List.toArray [boot_o_0 P, boot_o_1 P, o2_1 P, o3_6 P, boot_o_4 P, boot_o_5 P, boot_o_6 P, boot_o_7 P, boot_o_8 P, boot_o_9 P, boot_o_10 P, o11, o12_6, o13, o14, o15, o16, o17, o18, o19, o20, o21, o22, o23, o24 P, o25, o26, o27, o28, o29, o30, o31, o32, o33, o34, o35, o36, o37 P, o38_1, o39, o40, o41, o42, o43, o44 P, o45, o46, o47, o48, o49, o50 P, o51, o52, o53, o54, o55, o56, o57, o58, o59, o60, o61, o62, o63, o64, o65, o66, o67, o68, o69, o70, o71, o72, o73, o74, o75, o76, o77, o78, o79, o80, o81, o82, o83, o84, o85, o86, o87, o88, o89, o90, o91, o92, o93, o94, o95, o96, o97, o98, o99, o100, o101, o102, o103, o104, o105, o106, o107, o108, o109, o110, o111, o112 P, o113, o114, o115, o116, o117, o118, o119, o120, o121, o122, o123, o124, o125, o126, o127, o128, o129, o130, o131, o132, o133, o134, o135, o136, o137, o138, o139, o140, o141, o142, o143, o144, o145, o146 P, o147, o148, o149, o150, o151, o152, o153, o154, o155, o156, o157, o158, o159, o160, o161, o162, o163, o164, o165, o166, o167, o168 P, o169, o170, o171, o172, o173, o174, o175, o176, o177, o178, o179, o180, o181, o182, o183, o184, o185, o186, o187, o188, o189 P, o190, o191, o192, o193, o194, o195, o196, o197, o198, o199, o200, o201, o202, o203, o204, o205, o206, o207, o208, o209, o210, o211, o212, o213, o214, o215, o216, o217, o218, o219, o220, o221, o222, o223, o224, o225, o226, o227, o228, o229, o230, o231, o232, o233, o234, o235, o236, o237, o238, o239, o240, o241, o242, o243, o244, o245, o246, o247, o248, o249, o250, o251, o252, o253, o254, o255, o256, o257, o258, o259, o260, o261, o262, o263, o264, o265, o266, o267, o268, o269, o270, o271, o272, o273, o274, o275, o276, o277, o278, o279, o280, o281], {}⟩
noncomputable abbrev HF := H6
noncomputable def VW : Program := view PW [0, 2, 3, 5, 6, 7, 8, 9, 10, 11, 12, 13, 14, 16, 17, 18, 20, 22, 23, 24, 25, 26, 27, 28, 29, 30, 31, 32, 33, 34]
noncomputable def EV : Env := { scope := PW.main.scope, locals := mainNs, globals := mainNs, cells := [], code := .ref 13, frame := some 14 }
noncomputable abbrev BD : List Stmt := behindTheImports PW
noncomputable abbrev CE : Code := .body BD EV
noncomputable abbrev FR : List Frame := [topFrame ⟨0, 0, 0, 0⟩]
noncomputable abbrev AN : Option Value := some (.ref 6)
noncomputable abbrev G0 : Array GenState := Array.mk []
theorem eSR : @segRun = @PySem.W.Fast.tw14374325043358763698 := PySem.W.Fast.te14374325043358763698
theorem eTG : @topGo = @PySem.W.Fast.tw15667345088766844465 := PySem.W.Fast.te15667345088766844465
theorem eTR : @topRun = @PySem.W.Fast.tw14082659384304107361 := PySem.W.Fast.te14082659384304107361
theorem eTT : treeTable = PySem.W.Fast.tw14364793385576792824 := PySem.W.Fast.te14364793385576792824
theorem eDN : @denote = @PySem.W.Fast.tw11892475500146522536 := PySem.W.Fast.te11892475500146522536
theorem pPre (w : World) (os : OsState) : topGo treeTable PW w 11 AN 12 ⟨boot_heap w.params, G0, boot_drawn, boot_toks, os⟩ (topStub PW) = some (⟨HA w.params, G0, boot_drawn, 187, os⟩, ⟨denote treeTable CE, CE, ⟨0, 0, 0, 0⟩, FR⟩) := by
  rw [eTG, eTT, eDN]; kernel_rfl
theorem pBlock (w : World) (os : OsState) : segRun treeTable PW w 11 AN 1 1 ⟨HA w.params, G0, boot_drawn, 187, os⟩ (blockOf BD EV CE ⟨0, 0, 0, 0⟩ FR) = some (.next, ⟨HB w.params, G0, boot_drawn, 187, os⟩, CE, ⟨0, 0, 0, 0⟩) := by
  rw [eSR, eTT]; kernel_rfl
noncomputable def S1 : List Stmt := (BD.drop 0).take 3
theorem pSeg1 (w : World) (os : OsState) : segRun treeTable PW w 11 AN 1 267 ⟨HB w.params, G0, boot_drawn, 187, os⟩ (piecesOf S1 EV CE ⟨0, 0, 0, 0⟩ FR) = some (.next, ⟨H1 w.params, G0, boot_drawn, 225, os⟩, CE, ⟨5, 0, 9, 30⟩) := by
  rw [eSR, eTT]; kernel_rfl
noncomputable def S2 : List Stmt := (BD.drop 3).take 9
theorem pSeg2 (w : World) (os : OsState) : segRun treeTable PW w 11 AN 1 396 ⟨H1 w.params, G0, boot_drawn, 225, os⟩ (piecesOf S2 EV CE ⟨5, 0, 9, 30⟩ FR) = some (.next, ⟨H2 w.params, G0, boot_drawn, 293, os⟩, CE, ⟨29, 0, 30, 42⟩) := by
  rw [eSR, eTT]; kernel_rfl
noncomputable def S3 : List Stmt := (BD.drop 12).take 4
theorem pSeg3 (w : World) (os : OsState) : segRun treeTable PW w 11 AN 1 100 ⟨H2 w.params, G0, boot_drawn, 293, os⟩ (piecesOf S3 EV CE ⟨29, 0, 30, 42⟩ FR) = some (.next, ⟨H3 w.params, G0, boot_drawn, 319, os⟩, CE, ⟨37, 0, 37, 8⟩) := by
  rw [eSR, eTT]; kernel_rfl
noncomputable def S4 : List Stmt := (BD.drop 16).take 4
theorem pSeg4 (w : World) (os : OsState) : segRun treeTable PW w 11 AN 1 401 ⟨H3 w.params, G0, boot_drawn, 319, os⟩ (piecesOf S4 EV CE ⟨37, 0, 37, 8⟩ FR) = some (.next, ⟨H4 w.params, G0, boot_drawn, 403, os⟩, CE, ⟨75, 0, 75, 8⟩) := by
  rw [eSR, eTT]; kernel_rfl
noncomputable def S5 : List Stmt := (BD.drop 20).take 6
theorem pSeg5 (w : World) (os : OsState) : segRun treeTable PW w 11 AN 1 393 ⟨H4 w.params, G0, boot_drawn, 403, os⟩ (piecesOf S5 EV CE ⟨75, 0, 75, 8⟩ FR) = some (.next, ⟨H5 w.params, G0, boot_drawn, 482, os⟩, CE, ⟨101, 0, 102, 102⟩) := by
  rw [eSR, eTT]; kernel_rfl
noncomputable def S6 : List Stmt := (BD.drop 26).take 9
theorem pSeg6 (w : World) (os : OsState) : segRun treeTable PW w 11 AN 1 279 ⟨H5 w.params, G0, boot_drawn, 482, os⟩ (piecesOf S6 EV CE ⟨101, 0, 102, 102⟩ FR) = some (.next, ⟨H6 w.params, G0, boot_drawn, 566, os⟩, CE, ⟨152, 0, 169, 35⟩) := by
  rw [eSR, eTT]; kernel_rfl
theorem pFin (w : World) (os : OsState) : topRun treeTable PW w 11 AN 2 ⟨H6 w.params, G0, boot_drawn, 566, os⟩ ⟨doneF .next, CE, ⟨152, 0, 169, 35⟩, FR⟩ = some ⟨HF w.params, G0, boot_drawn, 566, os⟩ := by
  rw [eTR, eTT]; kernel_rfl
theorem body_cut : BD = (S1 ++ (S2 ++ (S3 ++ (S4 ++ (S5 ++ (S6 ++ [])))))) := by kernel_rfl
theorem pRun (w : World) (os : OsState) : topRun treeTable PW w 11 AN (12 + (1 + (267 + (396 + (100 + (401 + (393 + (279 + 2)))))))) ⟨boot_heap w.params, G0, boot_drawn, boot_toks, os⟩ (topStub PW) = some ⟨HF w.params, G0, boot_drawn, 566, os⟩ :=
  have h : topRun treeTable PW w 11 AN (267 + (396 + (100 + (401 + (393 + (279 + 2)))))) ⟨HB w.params, G0, boot_drawn, 187, os⟩ (restOf (S1 ++ (S2 ++ (S3 ++ (S4 ++ (S5 ++ (S6 ++ [])))))) EV CE ⟨0, 0, 0, 0⟩ FR) = some ⟨HF w.params, G0, boot_drawn, 566, os⟩ := piece_app (pSeg1 w os) (piece_app (pSeg2 w os) (piece_app (pSeg3 w os) (piece_app (pSeg4 w os) (piece_app (pSeg5 w os) (piece_app (pSeg6 w os) (piece_nil (pFin w os)))))))
  go_top (pPre w os) (piece_block (pBlock w os) ((congrArg (fun l => topRun treeTable PW w 11 AN (267 + (396 + (100 + (401 + (393 + (279 + 2)))))) ⟨HB w.params, G0, boot_drawn, 187, os⟩ (restOf l EV CE ⟨0, 0, 0, 0⟩ FR)) body_cut).trans h))
noncomputable abbrev SF (w : World) (os : OsState) : Shared := ⟨HF w.params, G0, boot_drawn, 566, os⟩
noncomputable abbrev MD : List Str := importedModules PW.main.body
noncomputable abbrev XT : Shared → Bool := fun s => xlAt VW [] s && recOk (RowW.records (OpenRow.toRowW (OpenLaw.row PySem.Challenge.rw_pb0537_01))) s
theorem pOpen : ∀ w : World, (fencedOpening treeTable PW w 3786).map (fun s => (s.heap, s.gens, s.drawn, s.toks)) = some (boot_heap w.params, G0, boot_drawn, boot_toks) :=
  boot_open (by kernel_rfl) (by decide) (fun s => by kernel_rfl)
theorem pSize : ∀ w : World, ((boot_heap w.params).isNs mainGlobals && G0.size == 0, (boot_heap w.params).objs.size, (boot_heap w.params).nsMap mainGlobals "__annotations__") = (true, 11, AN) := by
  intro w; kernel_rfl
theorem k0 (w : World) (os : OsState) : (staticsOk MD (boot_heap w.params) (HF w.params) && namesBound PW (HF w.params) && gensDone (SF w os) && laidKept (boot_heap w.params) (HF w.params)) = true := by kernel_rfl
theorem k1 (w : World) (os : OsState) : openSeen VW [] MD XT true (SF w os) = openGood VW [] := by kernel_rfl
theorem left {α : Type} {Yf : Shared → α} {Ya : World → α} (hY : ∀ w : World, (fun os : OsState => Yf (SF w os)) = fun _ => Ya w) : LeftO PW VW [] XT Yf Ya 3786 :=
  LeftO.of_pieces (H₀ := boot_heap) (H₁ := HF) pOpen pSize pRun (by decide) fun w => funext fun os =>
    Prod.ext (k0 w os) (Prod.ext (k1 w os) (congrFun (hY w) os))
end
end MineHead

end
section
open PySem PySem.W PyProof.Rows PySem.Calls
set_option maxRecDepth 100000
set_option maxHeartbeats 8000000
local macro_rules | `(tactic| o_head $H) => `(tactic| (apply (holds_open (r := OpenLaw.row PySem.Challenge.rw_pb0537_01) (q := MineHead.VW) (loose := []) (Xt := MineHead.XT) (XP := XL MineHead.VW []) (Yf := Hook.obs $H) (Ya := Hook.val $H) (YP := Hook.says $H) (N := 3786) (MineHead.left (fun w => by kernel_rfl)) (Hook.of $H) (Hook.keeps $H) (fun s e => xl_of s (Bool.and_eq_true_iff.mp e).1) XL.keeps (by rfl) (by rfl) (by rfl) (fun s e => recFacts_of (Bool.and_eq_true_iff.mp e).2) (by rfl) (by first | assumption | decide +kernel) (by decide +kernel) ⟨rfl, rfl, rfl, rfl, rfl, by decide +kernel⟩)))
open_top hd for PySem.Challenge.rw_pb0537_01

end
section
/-! small proofs in the place of omega's: that an older address is another one, that there is room -/
theorem ne_gt {a b : Nat} (h : b < a) : ¬ (a : Nat) = b := Nat.ne_of_gt h
theorem ne_lt {a b : Nat} (h : a < b) : ¬ (a : Nat) = b := Nat.ne_of_lt h
theorem cj0 {p r : Prop} (h : p ∧ r) : p := h.1
theorem cj1 {q0 p r : Prop} (h : q0 ∧ p ∧ r) : p := h.2.1
theorem ck1 {q0 p : Prop} (h : q0 ∧ p) : p := h.2
theorem cj2 {q0 q1 p r : Prop} (h : q0 ∧ q1 ∧ p ∧ r) : p := h.2.2.1
theorem ck2 {q0 q1 p : Prop} (h : q0 ∧ q1 ∧ p) : p := h.2.2
theorem cj3 {q0 q1 q2 p r : Prop} (h : q0 ∧ q1 ∧ q2 ∧ p ∧ r) : p := h.2.2.2.1
theorem ck3 {q0 q1 q2 p : Prop} (h : q0 ∧ q1 ∧ q2 ∧ p) : p := h.2.2.2
theorem cj4 {q0 q1 q2 q3 p r : Prop} (h : q0 ∧ q1 ∧ q2 ∧ q3 ∧ p ∧ r) : p := h.2.2.2.2.1
theorem ck4 {q0 q1 q2 q3 p : Prop} (h : q0 ∧ q1 ∧ q2 ∧ q3 ∧ p) : p := h.2.2.2.2
theorem cj5 {q0 q1 q2 q3 q4 p r : Prop} (h : q0 ∧ q1 ∧ q2 ∧ q3 ∧ q4 ∧ p ∧ r) : p := h.2.2.2.2.2.1
theorem ck5 {q0 q1 q2 q3 q4 p : Prop} (h : q0 ∧ q1 ∧ q2 ∧ q3 ∧ q4 ∧ p) : p := h.2.2.2.2.2
theorem cj6 {q0 q1 q2 q3 q4 q5 p r : Prop} (h : q0 ∧ q1 ∧ q2 ∧ q3 ∧ q4 ∧ q5 ∧ p ∧ r) : p := h.2.2.2.2.2.2.1
theorem ck6 {q0 q1 q2 q3 q4 q5 p : Prop} (h : q0 ∧ q1 ∧ q2 ∧ q3 ∧ q4 ∧ q5 ∧ p) : p := h.2.2.2.2.2.2
theorem cj7 {q0 q1 q2 q3 q4 q5 q6 p r : Prop} (h : q0 ∧ q1 ∧ q2 ∧ q3 ∧ q4 ∧ q5 ∧ q6 ∧ p ∧ r) : p := h.2.2.2.2.2.2.2.1
theorem ck7 {q0 q1 q2 q3 q4 q5 q6 p : Prop} (h : q0 ∧ q1 ∧ q2 ∧ q3 ∧ q4 ∧ q5 ∧ q6 ∧ p) : p := h.2.2.2.2.2.2.2
theorem cj8 {q0 q1 q2 q3 q4 q5 q6 q7 p r : Prop} (h : q0 ∧ q1 ∧ q2 ∧ q3 ∧ q4 ∧ q5 ∧ q6 ∧ q7 ∧ p ∧ r) : p := h.2.2.2.2.2.2.2.2.1
theorem ck8 {q0 q1 q2 q3 q4 q5 q6 q7 p : Prop} (h : q0 ∧ q1 ∧ q2 ∧ q3 ∧ q4 ∧ q5 ∧ q6 ∧ q7 ∧ p) : p := h.2.2.2.2.2.2.2.2
theorem cj9 {q0 q1 q2 q3 q4 q5 q6 q7 q8 p r : Prop} (h : q0 ∧ q1 ∧ q2 ∧ q3 ∧ q4 ∧ q5 ∧ q6 ∧ q7 ∧ q8 ∧ p ∧ r) : p := h.2.2.2.2.2.2.2.2.2.1
theorem ck9 {q0 q1 q2 q3 q4 q5 q6 q7 q8 p : Prop} (h : q0 ∧ q1 ∧ q2 ∧ q3 ∧ q4 ∧ q5 ∧ q6 ∧ q7 ∧ q8 ∧ p) : p := h.2.2.2.2.2.2.2.2.2
theorem cj10 {q0 q1 q2 q3 q4 q5 q6 q7 q8 q9 p r : Prop} (h : q0 ∧ q1 ∧ q2 ∧ q3 ∧ q4 ∧ q5 ∧ q6 ∧ q7 ∧ q8 ∧ q9 ∧ p ∧ r) : p := h.2.2.2.2.2.2.2.2.2.2.1
theorem ck10 {q0 q1 q2 q3 q4 q5 q6 q7 q8 q9 p : Prop} (h : q0 ∧ q1 ∧ q2 ∧ q3 ∧ q4 ∧ q5 ∧ q6 ∧ q7 ∧ q8 ∧ q9 ∧ p) : p := h.2.2.2.2.2.2.2.2.2.2
theorem cj11 {q0 q1 q2 q3 q4 q5 q6 q7 q8 q9 q10 p r : Prop} (h : q0 ∧ q1 ∧ q2 ∧ q3 ∧ q4 ∧ q5 ∧ q6 ∧ q7 ∧ q8 ∧ q9 ∧ q10 ∧ p ∧ r) : p := h.2.2.2.2.2.2.2.2.2.2.2.1
theorem ck11 {q0 q1 q2 q3 q4 q5 q6 q7 q8 q9 q10 p : Prop} (h : q0 ∧ q1 ∧ q2 ∧ q3 ∧ q4 ∧ q5 ∧ q6 ∧ q7 ∧ q8 ∧ q9 ∧ q10 ∧ p) : p := h.2.2.2.2.2.2.2.2.2.2.2
theorem cj12 {q0 q1 q2 q3 q4 q5 q6 q7 q8 q9 q10 q11 p r : Prop} (h : q0 ∧ q1 ∧ q2 ∧ q3 ∧ q4 ∧ q5 ∧ q6 ∧ q7 ∧ q8 ∧ q9 ∧ q10 ∧ q11 ∧ p ∧ r) : p := h.2.2.2.2.2.2.2.2.2.2.2.2.1
theorem ck12 {q0 q1 q2 q3 q4 q5 q6 q7 q8 q9 q10 q11 p : Prop} (h : q0 ∧ q1 ∧ q2 ∧ q3 ∧ q4 ∧ q5 ∧ q6 ∧ q7 ∧ q8 ∧ q9 ∧ q10 ∧ q11 ∧ p) : p := h.2.2.2.2.2.2.2.2.2.2.2.2
theorem cj13 {q0 q1 q2 q3 q4 q5 q6 q7 q8 q9 q10 q11 q12 p r : Prop} (h : q0 ∧ q1 ∧ q2 ∧ q3 ∧ q4 ∧ q5 ∧ q6 ∧ q7 ∧ q8 ∧ q9 ∧ q10 ∧ q11 ∧ q12 ∧ p ∧ r) : p := h.2.2.2.2.2.2.2.2.2.2.2.2.2.1
theorem ck13 {q0 q1 q2 q3 q4 q5 q6 q7 q8 q9 q10 q11 q12 p : Prop} (h : q0 ∧ q1 ∧ q2 ∧ q3 ∧ q4 ∧ q5 ∧ q6 ∧ q7 ∧ q8 ∧ q9 ∧ q10 ∧ q11 ∧ q12 ∧ p) : p := h.2.2.2.2.2.2.2.2.2.2.2.2.2
theorem cj14 {q0 q1 q2 q3 q4 q5 q6 q7 q8 q9 q10 q11 q12 q13 p r : Prop} (h : q0 ∧ q1 ∧ q2 ∧ q3 ∧ q4 ∧ q5 ∧ q6 ∧ q7 ∧ q8 ∧ q9 ∧ q10 ∧ q11 ∧ q12 ∧ q13 ∧ p ∧ r) : p := h.2.2.2.2.2.2.2.2.2.2.2.2.2.2.1
theorem ck14 {q0 q1 q2 q3 q4 q5 q6 q7 q8 q9 q10 q11 q12 q13 p : Prop} (h : q0 ∧ q1 ∧ q2 ∧ q3 ∧ q4 ∧ q5 ∧ q6 ∧ q7 ∧ q8 ∧ q9 ∧ q10 ∧ q11 ∧ q12 ∧ q13 ∧ p) : p := h.2.2.2.2.2.2.2.2.2.2.2.2.2.2
theorem cj15 {q0 q1 q2 q3 q4 q5 q6 q7 q8 q9 q10 q11 q12 q13 q14 p r : Prop} (h : q0 ∧ q1 ∧ q2 ∧ q3 ∧ q4 ∧ q5 ∧ q6 ∧ q7 ∧ q8 ∧ q9 ∧ q10 ∧ q11 ∧ q12 ∧ q13 ∧ q14 ∧ p ∧ r) : p := h.2.2.2.2.2.2.2.2.2.2.2.2.2.2.2.1
theorem ck15 {q0 q1 q2 q3 q4 q5 q6 q7 q8 q9 q10 q11 q12 q13 q14 p : Prop} (h : q0 ∧ q1 ∧ q2 ∧ q3 ∧ q4 ∧ q5 ∧ q6 ∧ q7 ∧ q8 ∧ q9 ∧ q10 ∧ q11 ∧ q12 ∧ q13 ∧ q14 ∧ p) : p := h.2.2.2.2.2.2.2.2.2.2.2.2.2.2.2
theorem cj16 {q0 q1 q2 q3 q4 q5 q6 q7 q8 q9 q10 q11 q12 q13 q14 q15 p r : Prop} (h : q0 ∧ q1 ∧ q2 ∧ q3 ∧ q4 ∧ q5 ∧ q6 ∧ q7 ∧ q8 ∧ q9 ∧ q10 ∧ q11 ∧ q12 ∧ q13 ∧ q14 ∧ q15 ∧ p ∧ r) : p := h.2.2.2.2.2.2.2.2.2.2.2.2.2.2.2.2.1
theorem ck16 {q0 q1 q2 q3 q4 q5 q6 q7 q8 q9 q10 q11 q12 q13 q14 q15 p : Prop} (h : q0 ∧ q1 ∧ q2 ∧ q3 ∧ q4 ∧ q5 ∧ q6 ∧ q7 ∧ q8 ∧ q9 ∧ q10 ∧ q11 ∧ q12 ∧ q13 ∧ q14 ∧ q15 ∧ p) : p := h.2.2.2.2.2.2.2.2.2.2.2.2.2.2.2.2
theorem cj17 {q0 q1 q2 q3 q4 q5 q6 q7 q8 q9 q10 q11 q12 q13 q14 q15 q16 p r : Prop} (h : q0 ∧ q1 ∧ q2 ∧ q3 ∧ q4 ∧ q5 ∧ q6 ∧ q7 ∧ q8 ∧ q9 ∧ q10 ∧ q11 ∧ q12 ∧ q13 ∧ q14 ∧ q15 ∧ q16 ∧ p ∧ r) : p := h.2.2.2.2.2.2.2.2.2.2.2.2.2.2.2.2.2.1
theorem ck17 {q0 q1 q2 q3 q4 q5 q6 q7 q8 q9 q10 q11 q12 q13 q14 q15 q16 p : Prop} (h : q0 ∧ q1 ∧ q2 ∧ q3 ∧ q4 ∧ q5 ∧ q6 ∧ q7 ∧ q8 ∧ q9 ∧ q10 ∧ q11 ∧ q12 ∧ q13 ∧ q14 ∧ q15 ∧ q16 ∧ p) : p := h.2.2.2.2.2.2.2.2.2.2.2.2.2.2.2.2.2
theorem cj18 {q0 q1 q2 q3 q4 q5 q6 q7 q8 q9 q10 q11 q12 q13 q14 q15 q16 q17 p r : Prop} (h : q0 ∧ q1 ∧ q2 ∧ q3 ∧ q4 ∧ q5 ∧ q6 ∧ q7 ∧ q8 ∧ q9 ∧ q10 ∧ q11 ∧ q12 ∧ q13 ∧ q14 ∧ q15 ∧ q16 ∧ q17 ∧ p ∧ r) : p := h.2.2.2.2.2.2.2.2.2.2.2.2.2.2.2.2.2.2.1
theorem ck18 {q0 q1 q2 q3 q4 q5 q6 q7 q8 q9 q10 q11 q12 q13 q14 q15 q16 q17 p : Prop} (h : q0 ∧ q1 ∧ q2 ∧ q3 ∧ q4 ∧ q5 ∧ q6 ∧ q7 ∧ q8 ∧ q9 ∧ q10 ∧ q11 ∧ q12 ∧ q13 ∧ q14 ∧ q15 ∧ q16 ∧ q17 ∧ p) : p := h.2.2.2.2.2.2.2.2.2.2.2.2.2.2.2.2.2.2
theorem cj19 {q0 q1 q2 q3 q4 q5 q6 q7 q8 q9 q10 q11 q12 q13 q14 q15 q16 q17 q18 p r : Prop} (h : q0 ∧ q1 ∧ q2 ∧ q3 ∧ q4 ∧ q5 ∧ q6 ∧ q7 ∧ q8 ∧ q9 ∧ q10 ∧ q11 ∧ q12 ∧ q13 ∧ q14 ∧ q15 ∧ q16 ∧ q17 ∧ q18 ∧ p ∧ r) : p := h.2.2.2.2.2.2.2.2.2.2.2.2.2.2.2.2.2.2.2.1
theorem ck19 {q0 q1 q2 q3 q4 q5 q6 q7 q8 q9 q10 q11 q12 q13 q14 q15 q16 q17 q18 p : Prop} (h : q0 ∧ q1 ∧ q2 ∧ q3 ∧ q4 ∧ q5 ∧ q6 ∧ q7 ∧ q8 ∧ q9 ∧ q10 ∧ q11 ∧ q12 ∧ q13 ∧ q14 ∧ q15 ∧ q16 ∧ q17 ∧ q18 ∧ p) : p := h.2.2.2.2.2.2.2.2.2.2.2.2.2.2.2.2.2.2.2
theorem cj20 {q0 q1 q2 q3 q4 q5 q6 q7 q8 q9 q10 q11 q12 q13 q14 q15 q16 q17 q18 q19 p r : Prop} (h : q0 ∧ q1 ∧ q2 ∧ q3 ∧ q4 ∧ q5 ∧ q6 ∧ q7 ∧ q8 ∧ q9 ∧ q10 ∧ q11 ∧ q12 ∧ q13 ∧ q14 ∧ q15 ∧ q16 ∧ q17 ∧ q18 ∧ q19 ∧ p ∧ r) : p := h.2.2.2.2.2.2.2.2.2.2.2.2.2.2.2.2.2.2.2.2.1
theorem ck20 {q0 q1 q2 q3 q4 q5 q6 q7 q8 q9 q10 q11 q12 q13 q14 q15 q16 q17 q18 q19 p : Prop} (h : q0 ∧ q1 ∧ q2 ∧ q3 ∧ q4 ∧ q5 ∧ q6 ∧ q7 ∧ q8 ∧ q9 ∧ q10 ∧ q11 ∧ q12 ∧ q13 ∧ q14 ∧ q15 ∧ q16 ∧ q17 ∧ q18 ∧ q19 ∧ p) : p := h.2.2.2.2.2.2.2.2.2.2.2.2.2.2.2.2.2.2.2.2
theorem cj21 {q0 q1 q2 q3 q4 q5 q6 q7 q8 q9 q10 q11 q12 q13 q14 q15 q16 q17 q18 q19 q20 p r : Prop} (h : q0 ∧ q1 ∧ q2 ∧ q3 ∧ q4 ∧ q5 ∧ q6 ∧ q7 ∧ q8 ∧ q9 ∧ q10 ∧ q11 ∧ q12 ∧ q13 ∧ q14 ∧ q15 ∧ q16 ∧ q17 ∧ q18 ∧ q19 ∧ q20 ∧ p ∧ r) : p := h.2.2.2.2.2.2.2.2.2.2.2.2.2.2.2.2.2.2.2.2.2.1
theorem ck21 {q0 q1 q2 q3 q4 q5 q6 q7 q8 q9 q10 q11 q12 q13 q14 q15 q16 q17 q18 q19 q20 p : Prop} (h : q0 ∧ q1 ∧ q2 ∧ q3 ∧ q4 ∧ q5 ∧ q6 ∧ q7 ∧ q8 ∧ q9 ∧ q10 ∧ q11 ∧ q12 ∧ q13 ∧ q14 ∧ q15 ∧ q16 ∧ q17 ∧ q18 ∧ q19 ∧ q20 ∧ p) : p := h.2.2.2.2.2.2.2.2.2.2.2.2.2.2.2.2.2.2.2.2.2
theorem cj22 {q0 q1 q2 q3 q4 q5 q6 q7 q8 q9 q10 q11 q12 q13 q14 q15 q16 q17 q18 q19 q20 q21 p r : Prop} (h : q0 ∧ q1 ∧ q2 ∧ q3 ∧ q4 ∧ q5 ∧ q6 ∧ q7 ∧ q8 ∧ q9 ∧ q10 ∧ q11 ∧ q12 ∧ q13 ∧ q14 ∧ q15 ∧ q16 ∧ q17 ∧ q18 ∧ q19 ∧ q20 ∧ q21 ∧ p ∧ r) : p := h.2.2.2.2.2.2.2.2.2.2.2.2.2.2.2.2.2.2.2.2.2.2.1
theorem ck22 {q0 q1 q2 q3 q4 q5 q6 q7 q8 q9 q10 q11 q12 q13 q14 q15 q16 q17 q18 q19 q20 q21 p : Prop} (h : q0 ∧ q1 ∧ q2 ∧ q3 ∧ q4 ∧ q5 ∧ q6 ∧ q7 ∧ q8 ∧ q9 ∧ q10 ∧ q11 ∧ q12 ∧ q13 ∧ q14 ∧ q15 ∧ q16 ∧ q17 ∧ q18 ∧ q19 ∧ q20 ∧ q21 ∧ p) : p := h.2.2.2.2.2.2.2.2.2.2.2.2.2.2.2.2.2.2.2.2.2.2
theorem cj23 {q0 q1 q2 q3 q4 q5 q6 q7 q8 q9 q10 q11 q12 q13 q14 q15 q16 q17 q18 q19 q20 q21 q22 p r : Prop} (h : q0 ∧ q1 ∧ q2 ∧ q3 ∧ q4 ∧ q5 ∧ q6 ∧ q7 ∧ q8 ∧ q9 ∧ q10 ∧ q11 ∧ q12 ∧ q13 ∧ q14 ∧ q15 ∧ q16 ∧ q17 ∧ q18 ∧ q19 ∧ q20 ∧ q21 ∧ q22 ∧ p ∧ r) : p := h.2.2.2.2.2.2.2.2.2.2.2.2.2.2.2.2.2.2.2.2.2.2.2.1
theorem ck23 {q0 q1 q2 q3 q4 q5 q6 q7 q8 q9 q10 q11 q12 q13 q14 q15 q16 q17 q18 q19 q20 q21 q22 p : Prop} (h : q0 ∧ q1 ∧ q2 ∧ q3 ∧ q4 ∧ q5 ∧ q6 ∧ q7 ∧ q8 ∧ q9 ∧ q10 ∧ q11 ∧ q12 ∧ q13 ∧ q14 ∧ q15 ∧ q16 ∧ q17 ∧ q18 ∧ q19 ∧ q20 ∧ q21 ∧ q22 ∧ p) : p := h.2.2.2.2.2.2.2.2.2.2.2.2.2.2.2.2.2.2.2.2.2.2.2
theorem cj24 {q0 q1 q2 q3 q4 q5 q6 q7 q8 q9 q10 q11 q12 q13 q14 q15 q16 q17 q18 q19 q20 q21 q22 q23 p r : Prop} (h : q0 ∧ q1 ∧ q2 ∧ q3 ∧ q4 ∧ q5 ∧ q6 ∧ q7 ∧ q8 ∧ q9 ∧ q10 ∧ q11 ∧ q12 ∧ q13 ∧ q14 ∧ q15 ∧ q16 ∧ q17 ∧ q18 ∧ q19 ∧ q20 ∧ q21 ∧ q22 ∧ q23 ∧ p ∧ r) : p := h.2.2.2.2.2.2.2.2.2.2.2.2.2.2.2.2.2.2.2.2.2.2.2.2.1
theorem ck24 {q0 q1 q2 q3 q4 q5 q6 q7 q8 q9 q10 q11 q12 q13 q14 q15 q16 q17 q18 q19 q20 q21 q22 q23 p : Prop} (h : q0 ∧ q1 ∧ q2 ∧ q3 ∧ q4 ∧ q5 ∧ q6 ∧ q7 ∧ q8 ∧ q9 ∧ q10 ∧ q11 ∧ q12 ∧ q13 ∧ q14 ∧ q15 ∧ q16 ∧ q17 ∧ q18 ∧ q19 ∧ q20 ∧ q21 ∧ q22 ∧ q23 ∧ p) : p := h.2.2.2.2.2.2.2.2.2.2.2.2.2.2.2.2.2.2.2.2.2.2.2.2
theorem cj25 {q0 q1 q2 q3 q4 q5 q6 q7 q8 q9 q10 q11 q12 q13 q14 q15 q16 q17 q18 q19 q20 q21 q22 q23 q24 p r : Prop} (h : q0 ∧ q1 ∧ q2 ∧ q3 ∧ q4 ∧ q5 ∧ q6 ∧ q7 ∧ q8 ∧ q9 ∧ q10 ∧ q11 ∧ q12 ∧ q13 ∧ q14 ∧ q15 ∧ q16 ∧ q17 ∧ q18 ∧ q19 ∧ q20 ∧ q21 ∧ q22 ∧ q23 ∧ q24 ∧ p ∧ r) : p := h.2.2.2.2.2.2.2.2.2.2.2.2.2.2.2.2.2.2.2.2.2.2.2.2.2.1
theorem ck25 {q0 q1 q2 q3 q4 q5 q6 q7 q8 q9 q10 q11 q12 q13 q14 q15 q16 q17 q18 q19 q20 q21 q22 q23 q24 p : Prop} (h : q0 ∧ q1 ∧ q2 ∧ q3 ∧ q4 ∧ q5 ∧ q6 ∧ q7 ∧ q8 ∧ q9 ∧ q10 ∧ q11 ∧ q12 ∧ q13 ∧ q14 ∧ q15 ∧ q16 ∧ q17 ∧ q18 ∧ q19 ∧ q20 ∧ q21 ∧ q22 ∧ q23 ∧ q24 ∧ p) : p := h.2.2.2.2.2.2.2.2.2.2.2.2.2.2.2.2.2.2.2.2.2.2.2.2.2
theorem room0 {d a R : Nat} (h : d + a < R) : d < R := by omega
theorem room1 {d i a R : Nat} (h : d + a < R) (e : i ≤ a) : d + i < R := by omega
theorem room2 {d i j a R : Nat} (h : d + a < R) (e : i + j ≤ a) : d + i + j < R := by omega
theorem room3 {d i j k a R : Nat} (h : d + a < R) (e : i + j + k ≤ a) : d + i + j + k < R := by omega

end
section
open PySem PySem.W PyProof.Rows PySem.Spec PySem.Calls
set_option maxRecDepth 100000
set_option maxHeartbeats 8000000

abbrev srcO (x y : Int) (t u : Tok) (n : Nat) : Obj := listOf #[.int x t, .int y u] n

end
local macro_rules | `(tactic| k_all) => `(tactic| assumption)
section
open PySem PySem.W PyProof.Rows PySem.Spec PySem.Calls
theorem mulok_fmod {e b : Int} : IntMulOk (e.fmod 2147483647) b := by
  have h1 := Int.fmod_nonneg_of_pos e (show (0:Int) < 2147483647 by decide)
  have h2 := Int.fmod_lt_of_pos e (show (0:Int) < 2147483647 by decide)
  exact PySem.IntMulOk.of_left (PySem.intBits_le_64 (by omega) (by omega))
theorem fmod_facts (e : Int) {k : Int} (h : 0 < k) : 0 ≤ e.fmod k ∧ e.fmod k < k := ⟨Int.fmod_nonneg_of_pos e h, Int.fmod_lt_of_pos e h⟩
theorem fdiv_nonneg' (e : Int) {k : Int} (h0 : 0 ≤ e) (h : 0 < k) : 0 ≤ e.fdiv k := Int.fdiv_nonneg h0 (Int.le_of_lt h)
local macro_rules | `(tactic| mul_fits) => `(tactic| with_unfolding_all exact mulok_fmod)
section
variable {w : World} {mean : ExcName → Option Value} {mg mb : Str → Option Value} {dp un : Nat} {gd : Option (List Code)} {cn : Str} {cs : Scope} {a : Addr} {ccd : Value} {cl : List (Str × Addr)} {outer : List Env} {A₀ : Around} {base h₀ : Heap} {L : Addr} {m : Str → Option Value} {s : Shared} {Q E : Value → Shared → Prop}
  {news tl : List (Addr × Obj)} {src : Addr} {x y : Int} {t u tt : Tok} {n : Nat}

theorem take_body {top : Int}
    (B : Below A₀ base outer h₀) (F : Fr h₀ L s.heap m) (X : (hd.heap_39 w.params).In h₀) (N : News h₀ L s.heap ((src, srcO x y t u n) :: tl)) (T : Top MineHead.VW (looseW MineHead.VW []) mean mg mb h₀) (hk : cs.kind = .function)
    (hn : ∀ p ∈ tl, p.1 ≠ src) (hx : 0 ≤ x) (hy : 0 ≤ y) (hy2 : y < 2147483647) (ht1 : 1 ≤ top) (ht2 : top ≤ 3000)
    (hdp : dp + 1 < recursionLimit) (hu : un + 200 < cLine)
    (ret : ∀ (v : Int) (tv : Tok) (x' y' : Int) (t' u' : Tok) (n' : Nat) (h' : Heap) (tk' : Nat), 0 ≤ x' → 0 ≤ y' → y' < 2147483647 → 0 ≤ v → v < top → Fr h₀ L h' m → News h₀ L h' ((src, srcO x' y' t' u' n') :: tl) →
      Q (.int v tv) { s with heap := h', toks := tk' }) :
    wpAny (model PySem.Challenge.rw_pb0537_01.row.prog w) (ktrTop dp un gd cn cs L a ccd cl outer) (call (.ref 208) [.ref src, .int top tt]) Q E s := by
  revert X; k_fill; intro X
  refine wpAny_call ?_
  k_dflt cell_enter
  k_steps
  · refine ret _ _ _ _ _ _ _ _ _ (fdiv_nonneg' (k := top) x hx (by omega)) hy hy2 (fmod_facts x (by omega)).1 (fmod_facts x (by omega)).2 (by assumption) (by assumption)
  · refine ret _ _ _ _ _ _ _ _ _ hx (fmod_facts _ (by omega)).1 (fmod_facts _ (by omega)).2 (fmod_facts _ (by omega)).1 (fmod_facts _ (by omega)).2 (by assumption) (by assumption)

theorem updF_perm {src : Addr} {o : Obj} {news : List (Addr × Obj)} {g : Obj → List (Addr × Obj)} (U : UpdF src o news g) :
    ∃ tl, (∀ p ∈ tl, p.1 ≠ src) ∧ (∀ p, p ∈ news ↔ p ∈ (src, o) :: tl) ∧ ∀ o' p, p ∈ g o' ↔ p ∈ (src, o') :: tl := by
  obtain ⟨pre, post, rfl, hg, h1, h2⟩ := U.split
  refine ⟨pre ++ post, ?_, ?_, ?_⟩
  · intro p hp
    rcases List.mem_append.mp hp with h | h
    · exact h1 p h
    · exact h2 p h
  · intro p; simp only [List.mem_append, List.mem_cons]; constructor
    · rintro (h | h | h)
      · exact .inr (.inl h)
      · exact .inl h
      · exact .inr (.inr h)
    · rintro (h | h | h)
      · exact .inr (.inl h)
      · exact .inl h
      · exact .inr (.inr h)
  · intro o' p; rw [hg]; simp only [List.mem_append, List.mem_cons]; constructor
    · rintro (h | h | h)
      · exact .inr (.inl h)
      · exact .inl h
      · exact .inr (.inr h)
    · rintro (h | h | h)
      · exact .inr (.inl h)
      · exact .inl h
      · exact .inr (.inr h)

theorem take_ok {top : Int} {g : Obj → List (Addr × Obj)}
    (B : Below A₀ base outer h₀) (F : Fr h₀ L s.heap m) (X : (hd.heap_39 w.params).In h₀) (N : News h₀ L s.heap news) (T : Top MineHead.VW (looseW MineHead.VW []) mean mg mb h₀) (hk : cs.kind = .function)
    (U : UpdF src (srcO x y t u n) news g) (hx : 0 ≤ x) (hy : 0 ≤ y) (hy2 : y < 2147483647) (ht1 : 1 ≤ top) (ht2 : top ≤ 3000)
    (hdp : dp + 1 < recursionLimit) (hu : un + 200 < cLine)
    (ret : ∀ (v : Int) (tv : Tok) (x' y' : Int) (t' u' : Tok) (n' : Nat) (h' : Heap) (tk' : Nat), 0 ≤ x' → 0 ≤ y' → y' < 2147483647 → 0 ≤ v → v < top → Fr h₀ L h' m → News h₀ L h' (g (srcO x' y' t' u' n')) →
      Q (.int v tv) { s with heap := h', toks := tk' }) :
    wpAny (model PySem.Challenge.rw_pb0537_01.row.prog w) (ktrTop dp un gd cn cs L a ccd cl outer) (call (.ref 208) [.ref src, .int top tt]) Q E s := by
  obtain ⟨tl, hn, e1, e2⟩ := updF_perm U
  exact take_body B F X (fun p hp => N p ((e1 p).mpr hp)) T hk hn hx hy hy2 ht1 ht2 hdp hu fun v tv x' y' t' u' n' h' tk' a b c d e F' N' => ret v tv x' y' t' u' n' h' tk' a b c d e F' fun p hp => N' p ((e2 _ p).mp hp)
end

end
section
open PySem PySem.W PyProof.Rows PySem.Spec PySem.Calls
set_option maxRecDepth 100000
set_option maxHeartbeats 8000000

theorem lines1 : True := by
  k_with_none
  k_with "k_ne" => (first | with_reducible assumption | exact Ne.symm (by with_reducible assumption) | exact ne_gt (by with_reducible assumption) | exact ne_lt (by with_reducible assumption) | exact ne_gt (cj0 (by with_reducible assumption)) | exact ne_lt (cj0 (by with_reducible assumption)) | exact ne_gt (cj1 (by with_reducible assumption)) | exact ne_lt (cj1 (by with_reducible assumption)) | exact ne_gt (cj2 (by with_reducible assumption)) | exact ne_lt (cj2 (by with_reducible assumption)) | exact ne_gt (cj3 (by with_reducible assumption)) | exact ne_lt (cj3 (by with_reducible assumption)) | exact ne_gt (cj4 (by with_reducible assumption)) | exact ne_lt (cj4 (by with_reducible assumption)) | exact ne_gt (cj5 (by with_reducible assumption)) | exact ne_lt (cj5 (by with_reducible assumption)) | exact ne_gt (cj6 (by with_reducible assumption)) | exact ne_lt (cj6 (by with_reducible assumption)) | exact ne_gt (cj7 (by with_reducible assumption)) | exact ne_lt (cj7 (by with_reducible assumption)) | exact ne_gt (cj8 (by with_reducible assumption)) | exact ne_lt (cj8 (by with_reducible assumption)) | exact ne_gt (cj9 (by with_reducible assumption)) | exact ne_lt (cj9 (by with_reducible assumption)) | exact ne_gt (cj10 (by with_reducible assumption)) | exact ne_lt (cj10 (by with_reducible assumption)) | exact ne_gt (cj11 (by with_reducible assumption)) | exact ne_lt (cj11 (by with_reducible assumption)) | exact ne_gt (cj12 (by with_reducible assumption)) | exact ne_lt (cj12 (by with_reducible assumption)) | exact ne_gt (cj13 (by with_reducible assumption)) | exact ne_lt (cj13 (by with_reducible assumption)) | exact ne_gt (cj14 (by with_reducible assumption)) | exact ne_lt (cj14 (by with_reducible assumption)) | exact ne_gt (cj15 (by with_reducible assumption)) | exact ne_lt (cj15 (by with_reducible assumption)) | exact ne_gt (cj16 (by with_reducible assumption)) | exact ne_lt (cj16 (by with_reducible assumption)) | exact ne_gt (cj17 (by with_reducible assumption)) | exact ne_lt (cj17 (by with_reducible assumption)) | exact ne_gt (cj18 (by with_reducible assumption)) | exact ne_lt (cj18 (by with_reducible assumption)) | exact ne_gt (cj19 (by with_reducible assumption)) | exact ne_lt (cj19 (by with_reducible assumption)) | exact ne_gt (cj20 (by with_reducible assumption)) | exact ne_lt (cj20 (by with_reducible assumption)) | exact ne_gt (cj21 (by with_reducible assumption)) | exact ne_lt (cj21 (by with_reducible assumption)) | exact ne_gt (cj22 (by with_reducible assumption)) | exact ne_lt (cj22 (by with_reducible assumption)) | exact ne_gt (cj23 (by with_reducible assumption)) | exact ne_lt (cj23 (by with_reducible assumption)) | exact ne_gt (cj24 (by with_reducible assumption)) | exact ne_lt (cj24 (by with_reducible assumption)) | exact ne_gt (cj25 (by with_reducible assumption)) | exact ne_lt (cj25 (by with_reducible assumption)) | exact ne_gt (ck1 (by with_reducible assumption)) | exact ne_lt (ck1 (by with_reducible assumption)) | exact ne_gt (ck2 (by with_reducible assumption)) | exact ne_lt (ck2 (by with_reducible assumption)) | exact ne_gt (ck3 (by with_reducible assumption)) | exact ne_lt (ck3 (by with_reducible assumption)) | exact ne_gt (ck4 (by with_reducible assumption)) | exact ne_lt (ck4 (by with_reducible assumption)) | exact ne_gt (ck5 (by with_reducible assumption)) | exact ne_lt (ck5 (by with_reducible assumption)) | exact ne_gt (ck6 (by with_reducible assumption)) | exact ne_lt (ck6 (by with_reducible assumption)) | exact ne_gt (ck7 (by with_reducible assumption)) | exact ne_lt (ck7 (by with_reducible assumption)) | exact ne_gt (ck8 (by with_reducible assumption)) | exact ne_lt (ck8 (by with_reducible assumption)) | exact ne_gt (ck9 (by with_reducible assumption)) | exact ne_lt (ck9 (by with_reducible assumption)) | exact ne_gt (ck10 (by with_reducible assumption)) | exact ne_lt (ck10 (by with_reducible assumption)) | exact ne_gt (ck11 (by with_reducible assumption)) | exact ne_lt (ck11 (by with_reducible assumption)) | exact ne_gt (ck12 (by with_reducible assumption)) | exact ne_lt (ck12 (by with_reducible assumption)) | exact ne_gt (ck13 (by with_reducible assumption)) | exact ne_lt (ck13 (by with_reducible assumption)) | exact ne_gt (ck14 (by with_reducible assumption)) | exact ne_lt (ck14 (by with_reducible assumption)) | exact ne_gt (ck15 (by with_reducible assumption)) | exact ne_lt (ck15 (by with_reducible assumption)) | exact ne_gt (ck16 (by with_reducible assumption)) | exact ne_lt (ck16 (by with_reducible assumption)) | exact ne_gt (ck17 (by with_reducible assumption)) | exact ne_lt (ck17 (by with_reducible assumption)) | exact ne_gt (ck18 (by with_reducible assumption)) | exact ne_lt (ck18 (by with_reducible assumption)) | exact ne_gt (ck19 (by with_reducible assumption)) | exact ne_lt (ck19 (by with_reducible assumption)) | exact ne_gt (ck20 (by with_reducible assumption)) | exact ne_lt (ck20 (by with_reducible assumption)) | exact ne_gt (ck21 (by with_reducible assumption)) | exact ne_lt (ck21 (by with_reducible assumption)) | exact ne_gt (ck22 (by with_reducible assumption)) | exact ne_lt (ck22 (by with_reducible assumption)) | exact ne_gt (ck23 (by with_reducible assumption)) | exact ne_lt (ck23 (by with_reducible assumption)) | exact ne_gt (ck24 (by with_reducible assumption)) | exact ne_lt (ck24 (by with_reducible assumption)) | exact ne_gt (ck25 (by with_reducible assumption)) | exact ne_lt (ck25 (by with_reducible assumption)))
  k_with "ktr_room" => (first | exact room2 (by with_reducible assumption) (by decide) | exact room1 (by with_reducible assumption) (by decide) | exact room0 (by with_reducible assumption) | exact room3 (by with_reducible assumption) (by decide))
  k_with "ktr_units" => (first | exact room2 (by with_reducible assumption) (by decide) | exact room1 (by with_reducible assumption) (by decide) | exact room0 (by with_reducible assumption) | exact room3 (by with_reducible assumption) (by decide))
  k_with "ke_room" => (first | exact room2 (by with_reducible assumption) (by decide) | exact room1 (by with_reducible assumption) (by decide) | exact room0 (by with_reducible assumption) | exact room3 (by with_reducible assumption) (by decide))
  k_with "call ref" => (k_here; k_dflt (refine' take_ok (by (k_asm)) (by (k_asm)) (by (k_asm)) (by (k_asm)) (by (k_asm)) (by (first | exact rfl | assumption)) (by (k_updF)) (by (assumption)) (by (assumption)) (by (assumption)) (by (omega)) (by (omega)) (by (ktr_room)) (by (ktr_units)) ?_; intro v' tv' x' y' t' u' n' h' tk' hx' hy' hy2' hv' hv2' F' N'; (try dsimp only at N'); (try k_sweep); (try dsimp only); (try k_fold)))
  exact True.intro
theorem item_any {prog : Program} {w : World} {A : Around} {E : Value → Shared → Prop} {s : Shared} {h₀ : Heap} {L : Addr} {news : List (Addr × Obj)} {value slice : PySem.Expr} {l : Addr} {vs : List Value} {k : Int} {u : Tok} {n : Nat} {Q : Value → Shared → Prop}
    (N : News h₀ L s.heap news) (hm : (l, listOf vs.toArray n) ∈ news) (h0 : 0 ≤ k) (h1 : k < vs.length) (hhi : k < 2 ^ 63) (h : ∀ v ∈ vs, Q v s)
    (hs : subscripted slice false (.ref l) (.int k u) = operate [.ref l, .int k u] (getItem (.ref l) (.int k u)) := by with_unfolding_all rfl) :
    wpAny (model prog w) A (subscriptTail value slice (.ref l) (.int k u)) Q E s := by
  have hl : s.heap.IsList l vs.toArray := ⟨_, (N _ hm).1, rfl, n, rfl⟩
  have hk : k.toNat < vs.length := by omega
  exact tail_any hl.typeIs slot_list_getitem.lookup (wpAny_getItem_list hl h0 hhi (by simp [hk]) (h _ (List.getElem_mem hk))) hs

theorem lines2 : True := by
  k_with "subscriptTail" => (k_here; (with_reducible show wpAny _ _ (subscriptTail _ _ (Value.ref _) (Value.int _ _)) _ _ _); k_dflt (refine' item_any (by (k_asm)) (by (first | assumption | exact List.Mem.tail _ (by assumption))) (by (omega)) (by (omega)) (by (omega)) ?_ (by (with_unfolding_all rfl)); k_whole); intro _ _)
  exact True.intro
theorem len_any {prog : Program} {w : World} {A : Around} {E : Value → Shared → Prop} {s : Shared} {h₀ : Heap} {L : Addr} {news : List (Addr × Obj)} {l : Addr} {vs : List Value} {n : Nat} {Q : Value → Shared → Prop}
    (N : News h₀ L s.heap news) (hm : (l, listOf vs.toArray n) ∈ news) (hz : vs.length ≤ 3000) (h : Q (.int vs.length (s.toks + 1)) { s with toks := s.toks + 1 + 1 }) : wpAny (model prog w) A (call (.builtin "len") [.ref l]) Q E s :=
  len_list (items := vs.toArray) ⟨_, (N _ hm).1, rfl, n, rfl⟩ (by simp; omega) (by simpa using h)
theorem lines3 : True := by
  k_with "call builtin:len" => (k_here; (with_reducible show wpAny _ _ (call (Value.builtin "len") [Value.ref _]) _ _ _); k_dflt (refine' len_any (n := _) (by (k_asm)) (by (first | assumption | exact List.Mem.tail _ (by assumption))) (by (assumption)) ?_; k_whole))
  exact True.intro
section
variable {w : World} {mean : ExcName → Option Value} {mg mb : Str → Option Value} {dp un : Nat} {gd : Option (List Code)} {cn : Str} {cs : Scope} {a : Addr} {ccd : Value} {cl : List (Str × Addr)} {outer : List Env} {A₀ : Around} {base h₀ : Heap} {L : Addr} {m : Str → Option Value} {s : Shared} {Q E : Value → Shared → Prop}
  {news tl : List (Addr × Obj)} {src : Addr} {x y : Int} {t u tt : Tok} {n : Nat}

theorem one_body {l : Addr} {vs : List Value} {k : Nat}
    (B : Below A₀ base outer h₀) (F : Fr h₀ L s.heap m) (X : (hd.heap_39 w.params).In h₀) (N : News h₀ L s.heap ((src, srcO x y t u n) :: tl)) (T : Top MineHead.VW (looseW MineHead.VW []) mean mg mb h₀) (hk : cs.kind = .function)
    (hn : ∀ p ∈ tl, p.1 ≠ src) (hx : 0 ≤ x) (hy : 0 ≤ y) (hy2 : y < 2147483647) (hl : (l, listOf vs.toArray k) ∈ tl) (hl1 : 1 ≤ vs.length) (hl2 : vs.length ≤ 3000)
    (hdp : dp + 2 < recursionLimit) (hu : un + 210 < cLine)
    (ret : ∀ (v : Value) (x' y' : Int) (t' u' : Tok) (n' : Nat) (h' : Heap) (tk' : Nat), 0 ≤ x' → 0 ≤ y' → y' < 2147483647 → v ∈ vs → Fr h₀ L h' m → News h₀ L h' ((src, srcO x' y' t' u' n') :: tl) →
      Q v { s with heap := h', toks := tk' }) :
    wpAny (model PySem.Challenge.rw_pb0537_01.row.prog w) (ktrTop dp un gd cn cs L a ccd cl outer) (call (.ref 215) [.ref src, .ref l]) Q E s := by
  revert X; k_fill; intro X
  refine wpAny_call ?_
  k_dflt cell_enter
  k_steps
  refine ret _ _ _ _ _ _ _ _ ?_ ?_ ?_ ?_ (by assumption) (by assumption) <;> assumption

theorem mem_tl {src : Addr} {o : Obj} {news tl : List (Addr × Obj)} {q : Addr × Obj} (e : ∀ p, p ∈ news ↔ p ∈ (src, o) :: tl) (h : q ∈ news) (hne : q.1 ≠ src) : q ∈ tl := by
  rcases List.mem_cons.mp ((e q).mp h) with rfl | h
  · exact absurd rfl hne
  · exact h

theorem one_ok {g : Obj → List (Addr × Obj)} {l : Addr} {vs : List Value} {k : Nat}
    (B : Below A₀ base outer h₀) (F : Fr h₀ L s.heap m) (X : (hd.heap_39 w.params).In h₀) (N : News h₀ L s.heap news) (T : Top MineHead.VW (looseW MineHead.VW []) mean mg mb h₀) (hk : cs.kind = .function)
    (U : UpdF src (srcO x y t u n) news g) (hx : 0 ≤ x) (hy : 0 ≤ y) (hy2 : y < 2147483647) (hl : (l, listOf vs.toArray k) ∈ news) (hne : l ≠ src) (hl1 : 1 ≤ vs.length) (hl2 : vs.length ≤ 3000)
    (hdp : dp + 2 < recursionLimit) (hu : un + 210 < cLine)
    (ret : ∀ (v : Value) (x' y' : Int) (t' u' : Tok) (n' : Nat) (h' : Heap) (tk' : Nat), 0 ≤ x' → 0 ≤ y' → y' < 2147483647 → v ∈ vs → Fr h₀ L h' m → News h₀ L h' (g (srcO x' y' t' u' n')) →
      Q v { s with heap := h', toks := tk' }) :
    wpAny (model PySem.Challenge.rw_pb0537_01.row.prog w) (ktrTop dp un gd cn cs L a ccd cl outer) (call (.ref 215) [.ref src, .ref l]) Q E s := by
  obtain ⟨tl, hn, e1, e2⟩ := updF_perm U
  exact one_body B F X (fun p hp => N p ((e1 p).mpr hp)) T hk hn hx hy hy2 (mem_tl e1 hl hne) hl1 hl2 hdp hu fun v x' y' t' u' n' h' tk' a b c d F' N' => ret v x' y' t' u' n' h' tk' a b c d F' fun p hp => N' p ((e2 _ p).mp hp)

def smallInt (k : Int) : Prop := 0 ≤ k ∧ k ≤ 2 ^ 60
/-- a menu of ints -/
theorem one_int {g : Obj → List (Addr × Obj)} {l : Addr} {vs : List Value} {k : Nat} (P : Int → Prop)
    (B : Below A₀ base outer h₀) (F : Fr h₀ L s.heap m) (X : (hd.heap_39 w.params).In h₀) (N : News h₀ L s.heap news) (T : Top MineHead.VW (looseW MineHead.VW []) mean mg mb h₀) (hk : cs.kind = .function)
    (U : UpdF src (srcO x y t u n) news g) (hx : 0 ≤ x) (hy : 0 ≤ y) (hy2 : y < 2147483647) (hl : (l, listOf vs.toArray k) ∈ news) (hne : l ≠ src) (hl1 : 1 ≤ vs.length) (hl2 : vs.length ≤ 3000)
    (hvs : ∀ v ∈ vs, ∃ k t, v = .int k t ∧ P k)
    (hdp : dp + 2 < recursionLimit) (hu : un + 210 < cLine)
    (ret : ∀ (v : Int) (tv : Tok) (x' y' : Int) (t' u' : Tok) (n' : Nat) (h' : Heap) (tk' : Nat), P v → 0 ≤ x' → 0 ≤ y' → y' < 2147483647 → Fr h₀ L h' m → News h₀ L h' (g (srcO x' y' t' u' n')) →
      Q (.int v tv) { s with heap := h', toks := tk' }) :
    wpAny (model PySem.Challenge.rw_pb0537_01.row.prog w) (ktrTop dp un gd cn cs L a ccd cl outer) (call (.ref 215) [.ref src, .ref l]) Q E s :=
  one_ok B F X N T hk U hx hy hy2 hl hne hl1 hl2 hdp hu fun v x' y' t' u' n' h' tk' a b c d F' N' => by
    obtain ⟨k, tv, rfl, hp⟩ := hvs v d
    exact ret k tv x' y' t' u' n' h' tk' hp a b c F' N'
end

end
section
open PySem PySem.W PyProof.Rows PySem.Spec PySem.Calls
set_option maxRecDepth 100000
set_option maxHeartbeats 8000000
abbrev tupO (vs : List Value) : Obj := { cls := .type "tuple", data := .seq vs.toArray }
theorem sub_step {q : Addr × Obj} {l tl : List (Addr × Obj)} (h : ∀ p ∈ tl, p ∈ l) : ∀ p ∈ tl, p ∈ q :: l := fun p hp => List.Mem.tail _ (h p hp)
end
local macro_rules | `(tactic| kqd_sub) => `(tactic| first | exact fun _ h => h | (refine List.forall_mem_cons.mpr ⟨?kqa, ?kqb⟩; (case kqa => k_mem); (case kqb => kqd_sub)) | (refine sub_step ?_; kqd_sub))
section
open PySem PySem.W PyProof.Rows PySem.Spec PySem.Calls
theorem ints_nil : ∀ v ∈ ([] : List Value), ∃ k t, v = .int k t ∧ smallInt k := fun _ h => nomatch h
theorem ints_cons {k : Int} {t : Tok} {vs : List Value} (hk : 0 ≤ k ∧ k ≤ 2 ^ 60) (h : ∀ v ∈ vs, ∃ k t, v = .int k t ∧ smallInt k) : ∀ v ∈ (.int k t :: vs), ∃ k t, v = Value.int k t ∧ smallInt k := by
  intro v hv
  rcases List.mem_cons.mp hv with rfl | hv
  · exact ⟨_, _, rfl, hk⟩
  · exact h v hv

end
section
open PySem PySem.W PyProof.Rows PySem.Spec PySem.Calls
set_option maxRecDepth 100000
set_option maxHeartbeats 8000000
/-- what a vector says -/
structure Vec where
  r0 : Int
  r1 : Int
  c : Int
  b0 : Int
  b1 : Int
  p0 : Int
  p1 : Int
def VecIn (news : List (Addr × Obj)) (v : Addr) (d : Vec) : Prop :=
  ∃ (r b p : Addr) (t0 t1 t2 t3 t4 t5 t6 : Tok), (v, tupO [.ref r, .int d.c t2, .ref b, .ref p]) ∈ news ∧ (r, tupO [.int d.r0 t0, .int d.r1 t1]) ∈ news ∧ (b, tupO [.int d.b0 t3, .int d.b1 t4]) ∈ news ∧ (p, tupO [.int d.p0 t5, .int d.p1 t6]) ∈ news


end
section
open PySem PySem.W PyProof.Rows PySem.Spec PySem.Calls
set_option maxRecDepth 100000
set_option maxHeartbeats 8000000
open PySem.SeqAt in
section
open AutoSeq1 (wpAny_loadPart')
open MeetsSeq MeetsSeq2 MeetsSeq3 SeqRoads2

def CmpAt (op : CmpOp) (A : Around) (s : Shared) (y x : Value) (b : Bool) : Prop :=
  ∀ (prog : Program) (w : World) (E : Value → Shared → Prop) (Q : Value → Shared → Prop), Q (.bool b) s → wpAny (model prog w) A (richCompare op y x) Q E s

def Lex (op : CmpOp) (A : Around) (s : Shared) (fin : Bool) : List (Value × Value) → Bool → Prop
  | [], r => r = fin
  | (x, y) :: rest, r => (EqAt A s x y true ∧ Lex op A s fin rest r) ∨ (EqAt A s x y false ∧ CmpAt op A s x y r)

theorem tuple_ltAt (l b : Addr) (items items2 : Array Value) (n n2 : Nat) (dd dd2 : Option Addr) (sl sl2 : Array (Option Value)) (r : Bool) :
    Meets (Builtin.«tuple.__lt__» ⟨[.ref l, .ref b], []⟩)
      (fun A R s => s.heap.get? l = some { cls := .type "tuple", dict := dd, data := .seq items n, slots := sl } ∧ s.heap.get? b = some { cls := .type "tuple", dict := dd2, data := .seq items2 n2, slots := sl2 } ∧
        Lex .Lt A.in1 s (decide (items.size < items2.size)) (items.toList.zip items2.toList) r ∧ R (.ok (.ret (.bool r))) s) :=
  .of_wp fun prog w A R s h => by
    obtain ⟨hp, g, d, tk, os⟩ := s; obtain ⟨hl, hb, he, hR⟩ := h
    have f2 := AutoSeq1.sub_tuple_tuple
    wp_walk using wpAny_loadPart' hl, wpAny_loadPart' hb, wpAny_forIn_list _ (fun rest b s' => b.1 = none ∧ s' = ⟨hp, g, d, tk, os⟩ ∧ Lex .Lt A.in1 ⟨hp, g, d, tk, os⟩ (decide (items.size < items2.size)) rest r) _
    case turn =>
      rintro ⟨y, x⟩ rest b s' ⟨hb', rfl, hz⟩
      rcases hz with ⟨h1, h2⟩ | ⟨h1, h2⟩
      · refine wpAny_bind (h1 prog w _ _ ?_)
        wp_walk
        exact ⟨rfl, rfl, h2⟩
      · refine wpAny_bind (h1 prog w _ _ ?_)
        have hc : ∀ {E : Value → Shared → Prop} {Q : Value → Shared → Prop}, Q (.bool r) ⟨hp, g, d, tk, os⟩ → wpAny (model prog w) A.in1 (richCompare .Lt y x) Q E ⟨hp, g, d, tk, os⟩ := fun h => h2 prog w _ _ h
        wp_walk using hc
        exact ⟨_, rfl, by simpa using hR⟩
    case fin =>
      rintro ⟨b1, b2⟩ s' ⟨hb', rfl, hz⟩
      simp only at hb'
      subst hb'
      have hz : r = decide (items.size < items2.size) := hz
      subst hz
      wp_walk
      exact ⟨_, rfl, by simpa [Builtin.Tuple.tupleCompareSizes] using hR⟩
    case h =>
      exact ⟨rfl, rfl, he⟩
theorem tuple_leAt (l b : Addr) (items items2 : Array Value) (n n2 : Nat) (dd dd2 : Option Addr) (sl sl2 : Array (Option Value)) (r : Bool) :
    Meets (Builtin.«tuple.__le__» ⟨[.ref l, .ref b], []⟩)
      (fun A R s => s.heap.get? l = some { cls := .type "tuple", dict := dd, data := .seq items n, slots := sl } ∧ s.heap.get? b = some { cls := .type "tuple", dict := dd2, data := .seq items2 n2, slots := sl2 } ∧
        Lex .LtE A.in1 s (decide (items.size ≤ items2.size)) (items.toList.zip items2.toList) r ∧ R (.ok (.ret (.bool r))) s) :=
  .of_wp fun prog w A R s h => by
    obtain ⟨hp, g, d, tk, os⟩ := s; obtain ⟨hl, hb, he, hR⟩ := h
    have f2 := AutoSeq1.sub_tuple_tuple
    wp_walk using wpAny_loadPart' hl, wpAny_loadPart' hb, wpAny_forIn_list _ (fun rest b s' => b.1 = none ∧ s' = ⟨hp, g, d, tk, os⟩ ∧ Lex .LtE A.in1 ⟨hp, g, d, tk, os⟩ (decide (items.size ≤ items2.size)) rest r) _
    case turn =>
      rintro ⟨y, x⟩ rest b s' ⟨hb', rfl, hz⟩
      rcases hz with ⟨h1, h2⟩ | ⟨h1, h2⟩
      · refine wpAny_bind (h1 prog w _ _ ?_)
        wp_walk
        exact ⟨rfl, rfl, h2⟩
      · refine wpAny_bind (h1 prog w _ _ ?_)
        have hc : ∀ {E : Value → Shared → Prop} {Q : Value → Shared → Prop}, Q (.bool r) ⟨hp, g, d, tk, os⟩ → wpAny (model prog w) A.in1 (richCompare .LtE y x) Q E ⟨hp, g, d, tk, os⟩ := fun h => h2 prog w _ _ h
        wp_walk using hc
        exact ⟨_, rfl, by simpa using hR⟩
    case fin =>
      rintro ⟨b1, b2⟩ s' ⟨hb', rfl, hz⟩
      simp only at hb'
      subst hb'
      have hz : r = decide (items.size ≤ items2.size) := hz
      subst hz
      wp_walk
      exact ⟨_, rfl, by simpa [Builtin.Tuple.tupleCompareSizes] using hR⟩
    case h =>
      exact ⟨rfl, rfl, he⟩

def opB (le : Bool) : CmpOp := if le then .LtE else .Lt
def finB (le : Bool) (m n : Nat) : Bool := if le then decide (m ≤ n) else decide (m < n)
theorem cmpAt_tuples {le : Bool} {A : Around} {s : Shared} {l b : Addr} {items items2 : Array Value} {r : Bool} (hl : s.heap.IsTuple l items) (hb : s.heap.IsTuple b items2) (hu : A.units < cLine)
    (he : Lex (opB le) A.in1 s (finB le items.size items2.size) (items.toList.zip items2.toList) r) : CmpAt (opB le) A s (.ref l) (.ref b) r := fun prog w E Q h => by
  obtain ⟨⟨cls, dd, data, sl⟩, ho, hc, n, hd⟩ := id hl
  obtain ⟨⟨cls2, dd2, data2, sl2⟩, ho2, hc2, n2, hd2⟩ := id hb
  simp only at hc hd hc2 hd2
  subst hc hd hc2 hd2
  cases le with
  | true =>
    exact richCompare_meets_room (op := .LtE) ⟨_, ho, rfl⟩ ⟨_, ho2, rfl⟩ F.slot_tuple_le F.entry_tuple_le (F.args_tuple_le_2 _ _) (tuple_leAt l b items items2 n n2 dd dd2 sl sl2 r)
      ⟨ho, ho2, he, show Value.bool r ≠ Value.notImplemented ∧ Q (.bool r) s from ⟨(fun x => nomatch x), h⟩⟩ hu
  | false =>
    exact richCompare_meets_room (op := .Lt) ⟨_, ho, rfl⟩ ⟨_, ho2, rfl⟩ F.slot_tuple_lt F.entry_tuple_lt (F.args_tuple_lt_2 _ _) (tuple_ltAt l b items items2 n n2 dd dd2 sl sl2 r)
      ⟨ho, ho2, he, show Value.bool r ≠ Value.notImplemented ∧ Q (.bool r) s from ⟨(fun x => nomatch x), h⟩⟩ hu
def ltB (le : Bool) (a b : Int) : Bool := if le then decide (a ≤ b) else decide (a < b)
theorem cmpAt_ints {le : Bool} {A : Around} {s : Shared} (a b : Int) (t u : Tok) : CmpAt (opB le) A s (.int a t) (.int b u) (ltB le a b) := fun prog w E Q h => by
  cases le with
  | true => exact le_int (show Q (.bool (decide (a ≤ b))) s from h)
  | false => exact lt_int (show Q (.bool (decide (a < b))) s from h)

mutual
def lexD (le : Bool) : PyData → PyData → Option Bool
  | .int a, .int b => some (ltB le a b)
  | .tuple xs, .tuple ys => lexDs le xs ys
  | _, _ => none
def lexDs (le : Bool) : List PyData → List PyData → Option Bool
  | [], [] => some le
  | [], _ :: _ => some true
  | _ :: _, [] => some false
  | x :: xs, y :: ys => if PyData.eqv x y then lexDs le xs ys else lexD le x y
end

mutual
theorem cmpAt_reads (le : Bool) : ∀ (da db : PyData) (r : Bool) (A : Around) (s : Shared) (a b : Value) (as bs : List Addr), Reads s.heap a da as → Reads s.heap b db bs → da.canLay0 = true → db.canLay0 = true →
    A.units + min da.depth db.depth < cLine → lexD le da db = some r → CmpAt (opB le) A s a b r
  | .int x, db, r, A, s, _, _, _, _, ra, rb, _, hb, hu, hr => by
    cases ra with
    | int _ t =>
      cases rb with
      | int y u => rw [lexD] at hr; cases hr; exact cmpAt_ints x y t u
      | _ => simp [lexD] at hr
  | .tuple xs, db, r, A, s, _, _, _, _, ra, rb, ha, hb, hu, hr => by
    cases ra with
    | @tuple l o vs n _ as₁ h1 h2 h3 h4 =>
      have hl : s.heap.IsTuple l vs := ⟨_, h1, h2, _, h3⟩
      cases rb with
      | @tuple l' o' vs' n' ys bs₁ k1 k2 k3 k4 =>
        have hl' : s.heap.IsTuple l' vs' := ⟨_, k1, k2, _, k3⟩
        rw [lexD] at hr
        have n1 : vs.toList.length = vs.size := by simp
        have n2 : vs'.toList.length = vs'.size := by simp
        refine cmpAt_tuples hl hl' (room_here hu) ?_
        exact lex_reads le xs ys r A.in1 s vs.toList vs'.toList _ _ (finB le vs.size vs'.size) h4 k4 ha hb (room_in hu) hr (by rw [n1, n2])
      | _ => simp [lexD] at hr
  | .none, db, r, _, _, _, _, _, _, _, _, _, _, _, hr => by cases db <;> simp [lexD] at hr
  | .bool _, db, r, _, _, _, _, _, _, _, _, _, _, _, hr => by cases db <;> simp [lexD] at hr
  | .str _, db, r, _, _, _, _, _, _, _, _, _, _, _, hr => by cases db <;> simp [lexD] at hr
  | .list _, db, r, _, _, _, _, _, _, _, _, _, _, _, hr => by cases db <;> simp [lexD] at hr
  | .dict _, db, r, _, _, _, _, _, _, _, _, _, _, _, hr => by cases db <;> simp [lexD] at hr
theorem lex_reads (le : Bool) : ∀ (xs ys : List PyData) (r : Bool) (A : Around) (s : Shared) (vs ws : List Value) (as bs : List Addr) (fin : Bool), ReadsAll s.heap vs xs as → ReadsAll s.heap ws ys bs → PyData.canLayAll0 xs = true → PyData.canLayAll0 ys = true →
    A.units + min (PyData.depthAll xs) (PyData.depthAll ys) < cLine → lexDs le xs ys = some r → fin = finB le vs.length ws.length → Lex (opB le) A s fin (vs.zip ws) r
  | [], [], r, A, s, _, _, _, _, fin, ra, rb, _, _, _, hr, hf => by
    cases ra; cases rb
    rw [lexDs] at hr; cases hr
    subst hf
    show le = finB le 0 0
    cases le <;> rfl
  | [], y :: ys, r, A, s, _, _, _, _, fin, ra, rb, _, _, _, hr, hf => by
    cases ra; cases rb
    rw [lexDs] at hr; cases hr
    subst hf
    show true = _
    cases le <;> simp [finB]
  | x :: xs, [], r, A, s, _, _, _, _, fin, ra, rb, _, _, _, hr, hf => by
    cases ra; cases rb
    rw [lexDs] at hr; cases hr
    subst hf
    show false = _
    cases le <;> simp [finB]
  | x :: xs, y :: ys, r, A, s, _, _, _, _, fin, ra, rb, ha, hb, hu, hr, hf => by
    have ha' : x.canLay0 = true ∧ PyData.canLayAll0 xs = true := by simpa [PyData.canLayAll0] using ha
    have hb' : y.canLay0 = true ∧ PyData.canLayAll0 ys = true := by simpa [PyData.canLayAll0] using hb
    cases ra with
    | @cons v vs _ _ as1 as2 r1 rs1 =>
      cases rb with
      | @cons v2 vs2 _ _ bs1 bs2 r2 rs2 =>
        have he := eqAt_reads x y A s _ _ _ _ r1 r2 ha'.1 hb'.1 (room_head hu)
        rw [lexDs] at hr
        have hf' : fin = finB le vs.length vs2.length := by
          rw [hf]; cases le <;> simp [finB]
        show (EqAt A s v v2 true ∧ _) ∨ (EqAt A s v v2 false ∧ _)
        cases hq : PyData.eqv x y with
        | true =>
          rw [hq] at he hr
          exact .inl ⟨he, lex_reads le xs ys r A s vs vs2 _ _ fin rs1 rs2 ha'.2 hb'.2 (room_tail hu) (by simpa using hr) hf'⟩
        | false =>
          rw [hq] at he hr
          exact .inr ⟨he, cmpAt_reads le x y r A s v v2 _ _ r1 r2 ha'.1 hb'.1 (room_head hu) (by simpa using hr)⟩
end

section
variable {prog : Program} {w : World} {A : Around} {E : Value → Shared → Prop} {s : Shared} {a b : Value} {da db : PyData} {as bs : List Addr} {r : Bool} {Q : Value → Shared → Prop}
theorem lt_data (ra : Reads s.heap a da as) (rb : Reads s.heap b db bs) (ha : shaped da = true) (hb : shaped db = true) (hu : A.units + 64 < cLine) (hr : lexD false da db = some r) (h : Q (.bool r) s) : wpAny (model prog w) A (compareOp .Lt a b) Q E s :=
  cmpAt_reads false da db r A s a b as bs ra rb (canLay_of_shaped ha) (canLay_of_shaped hb) (room_of_shaped ha hu) hr prog w E Q h
theorem le_data (ra : Reads s.heap a da as) (rb : Reads s.heap b db bs) (ha : shaped da = true) (hb : shaped db = true) (hu : A.units + 64 < cLine) (hr : lexD true da db = some r) (h : Q (.bool r) s) : wpAny (model prog w) A (compareOp .LtE a b) Q E s :=
  cmpAt_reads true da db r A s a b as bs ra rb (canLay_of_shaped ha) (canLay_of_shaped hb) (room_of_shaped ha hu) hr prog w E Q h
end
end

end
section
open PySem PySem.W PyProof.Rows PySem.Spec PySem.Calls
set_option maxRecDepth 100000
set_option maxHeartbeats 8000000
open PySem.SeqAt
mutual
def cmpb : PyData → PyData → Bool
  | .int _, .int _ => true
  | .tuple xs, .tuple ys => cmpbs xs ys
  | _, _ => false
def cmpbs : List PyData → List PyData → Bool
  | x :: xs, y :: ys => cmpb x y && cmpbs xs ys
  | _, _ => true
end
mutual
theorem lexD_some (le : Bool) : ∀ (a b : PyData), cmpb a b = true → ∃ r, lexD le a b = some r
  | .int a, .int b, _ => ⟨_, by rw [lexD]⟩
  | .tuple xs, .tuple ys, h => by
    obtain ⟨r, hr⟩ := lexDs_some le xs ys (by rw [cmpb] at h; exact h)
    exact ⟨r, by rw [lexD]; exact hr⟩
  | .none, _, h => by simp [cmpb] at h
  | .bool _, _, h => by simp [cmpb] at h
  | .str _, _, h => by simp [cmpb] at h
  | .list _, _, h => by simp [cmpb] at h
  | .dict _, _, h => by simp [cmpb] at h
  | .int _, .none, h => by simp [cmpb] at h
  | .int _, .bool _, h => by simp [cmpb] at h
  | .int _, .str _, h => by simp [cmpb] at h
  | .int _, .list _, h => by simp [cmpb] at h
  | .int _, .tuple _, h => by simp [cmpb] at h
  | .int _, .dict _, h => by simp [cmpb] at h
  | .tuple _, .none, h => by simp [cmpb] at h
  | .tuple _, .bool _, h => by simp [cmpb] at h
  | .tuple _, .str _, h => by simp [cmpb] at h
  | .tuple _, .list _, h => by simp [cmpb] at h
  | .tuple _, .int _, h => by simp [cmpb] at h
  | .tuple _, .dict _, h => by simp [cmpb] at h
theorem lexDs_some (le : Bool) : ∀ (xs ys : List PyData), cmpbs xs ys = true → ∃ r, lexDs le xs ys = some r
  | [], [], _ => ⟨_, by rw [lexDs]⟩
  | [], _ :: _, _ => ⟨_, by rw [lexDs]⟩
  | _ :: _, [], _ => ⟨_, by rw [lexDs]⟩
  | x :: xs, y :: ys, h => by
    rw [cmpbs, Bool.and_eq_true] at h
    obtain ⟨r, hr⟩ := lexDs_some le xs ys h.2
    obtain ⟨q, hq⟩ := lexD_some le x y h.1
    rw [lexDs]
    cases PyData.eqv x y with
    | true => exact ⟨r, by simpa using hr⟩
    | false => exact ⟨q, by simpa using hq⟩
end
def lexT (le : Bool) (a b : PyData) : Bool := (lexD le a b).getD false
theorem lexT_some {le : Bool} {a b : PyData} (h : cmpb a b = true) : lexD le a b = some (lexT le a b) := by
  obtain ⟨r, hr⟩ := lexD_some le a b h
  rw [lexT, hr]; rfl
section
variable {prog : Program} {w : World} {A : Around} {E : Value → Shared → Prop} {s : Shared} {a b : Value} {da db : PyData} {as bs : List Addr} {Q : Value → Shared → Prop}
theorem lt_dataT (ra : Reads s.heap a da as) (rb : Reads s.heap b db bs) (ha : shaped da = true) (hb : shaped db = true) (hu : A.units + 64 < cLine) (hr : cmpb da db = true) (h : Q (.bool (lexT false da db)) s) : wpAny (model prog w) A (compareOp .Lt a b) Q E s :=
  lt_data ra rb ha hb hu (lexT_some hr) h
theorem le_dataT (ra : Reads s.heap a da as) (rb : Reads s.heap b db bs) (ha : shaped da = true) (hb : shaped db = true) (hu : A.units + 64 < cLine) (hr : cmpb da db = true) (h : Q (.bool (lexT true da db)) s) : wpAny (model prog w) A (compareOp .LtE a b) Q E s :=
  le_data ra rb ha hb hu (lexT_some hr) h
end
/-- two lists of ints of one length, part by part -/
def lexL (le : Bool) : List Int → List Int → Bool
  | x :: xs, y :: ys => if x = y then lexL le xs ys else decide (x < y)
  | _, _ => le
theorem ltB_ne {le : Bool} {a b : Int} (h : ¬ a = b) : ltB le a b = decide (a < b) := by
  cases le
  · rfl
  · show decide (a ≤ b) = decide (a < b)
    exact decide_eq_decide.mpr ⟨fun h' => by omega, fun h' => by omega⟩
theorem lexT_pair {le : Bool} {a b c d : Int} : lexT le (.tuple [.int a, .int b]) (.tuple [.int c, .int d]) = lexL le [a, b] [c, d] := by
  simp only [lexT, lexD, lexDs, lexL, PyData.eqv]
  by_cases h1 : a = c <;> by_cases h2 : b = d <;> simp [h1, h2, ltB_ne]
theorem lexT_vec {le : Bool} {a0 a1 a2 a3 a4 a5 a6 b0 b1 b2 b3 b4 b5 b6 : Int} : lexT le (.tuple [.tuple [.int a0, .int a1], .int a2, .tuple [.int a3, .int a4], .tuple [.int a5, .int a6]]) (.tuple [.tuple [.int b0, .int b1], .int b2, .tuple [.int b3, .int b4], .tuple [.int b5, .int b6]]) =
    lexL le [a0, a1, a2, a3, a4, a5, a6] [b0, b1, b2, b3, b4, b5, b6] := by
  simp only [lexT, lexD, lexDs, lexL, PyData.eqv, PyData.eqvAll]
  by_cases h0 : a0 = b0 <;> by_cases h1 : a1 = b1 <;> by_cases h2 : a2 = b2 <;> by_cases h3 : a3 = b3 <;> by_cases h4 : a4 = b4 <;> by_cases h5 : a5 = b5 <;> by_cases h6 : a6 = b6 <;> simp [h0, h1, h2, h3, h4, h5, h6, ltB_ne]
theorem lexT_head {le : Bool} {a0 a1 a2 a3 a4 b0 b1 b2 b3 b4 : Int} : lexT le (.tuple [.tuple [.int a0, .int a1], .int a2, .tuple [.int a3, .int a4]]) (.tuple [.tuple [.int b0, .int b1], .int b2, .tuple [.int b3, .int b4]]) =
    lexL le [a0, a1, a2, a3, a4] [b0, b1, b2, b3, b4] := by
  simp only [lexT, lexD, lexDs, lexL, PyData.eqv, PyData.eqvAll]
  by_cases h0 : a0 = b0 <;> by_cases h1 : a1 = b1 <;> by_cases h2 : a2 = b2 <;> by_cases h3 : a3 = b3 <;> by_cases h4 : a4 = b4 <;> simp [h0, h1, h2, h3, h4, ltB_ne]
theorem lexT_tail {le : Bool} {a2 a3 a4 a5 a6 b2 b3 b4 b5 b6 : Int} : lexT le (.tuple [.int a2, .tuple [.int a3, .int a4], .tuple [.int a5, .int a6]]) (.tuple [.int b2, .tuple [.int b3, .int b4], .tuple [.int b5, .int b6]]) =
    lexL le [a2, a3, a4, a5, a6] [b2, b3, b4, b5, b6] := by
  simp only [lexT, lexD, lexDs, lexL, PyData.eqv, PyData.eqvAll]
  by_cases h2 : a2 = b2 <;> by_cases h3 : a3 = b3 <;> by_cases h4 : a4 = b4 <;> by_cases h5 : a5 = b5 <;> by_cases h6 : a6 = b6 <;> simp [h2, h3, h4, h5, h6, ltB_ne]
theorem eqv_vec {a0 a1 a2 a3 a4 a5 a6 b0 b1 b2 b3 b4 b5 b6 : Int} : PyData.eqv (.tuple [.tuple [.int a0, .int a1], .int a2, .tuple [.int a3, .int a4], .tuple [.int a5, .int a6]]) (.tuple [.tuple [.int b0, .int b1], .int b2, .tuple [.int b3, .int b4], .tuple [.int b5, .int b6]]) =
    decide ([a0, a1, a2, a3, a4, a5, a6] = [b0, b1, b2, b3, b4, b5, b6]) := by
  rw [Bool.eq_iff_iff]; simp only [PyData.eqv, PyData.eqvAll, Bool.and_eq_true, beq_iff_eq, decide_eq_true_eq, List.cons.injEq, and_true, and_assoc]
theorem eqv_head {a0 a1 a2 a3 a4 b0 b1 b2 b3 b4 : Int} : PyData.eqv (.tuple [.tuple [.int a0, .int a1], .int a2, .tuple [.int a3, .int a4]]) (.tuple [.tuple [.int b0, .int b1], .int b2, .tuple [.int b3, .int b4]]) =
    decide ([a0, a1, a2, a3, a4] = [b0, b1, b2, b3, b4]) := by
  rw [Bool.eq_iff_iff]; simp only [PyData.eqv, PyData.eqvAll, Bool.and_eq_true, beq_iff_eq, decide_eq_true_eq, List.cons.injEq, and_true, and_assoc]
theorem eqv_pair {a0 a1 b0 b1 : Int} : PyData.eqv (.tuple [.int a0, .int a1]) (.tuple [.int b0, .int b1]) = decide ([a0, a1] = [b0, b1]) := by
  rw [Bool.eq_iff_iff]; simp only [PyData.eqv, PyData.eqvAll, Bool.and_eq_true, beq_iff_eq, decide_eq_true_eq, List.cons.injEq, and_true]

end
section
open PySem PySem.W PyProof.Rows PySem.Spec PySem.Calls
set_option maxRecDepth 100000
set_option maxHeartbeats 8000000
abbrev Vec.parts (d : Vec) : List Int := [d.r0, d.r1, d.c, d.b0, d.b1, d.p0, d.p1]
end
local macro_rules | `(tactic| ke_room) => `(tactic| (have := PyProof.Rows.cLine_is; simp only [PyProof.Rows.units_deeper, PyProof.Rows.units_in1, PySem.W.ktrTop] at *; omega))
section
open PySem PySem.W PyProof.Rows PySem.Spec PySem.Calls

theorem lines4 : True := by
  k_with_none
  k_with "k_ne" => (first | with_reducible assumption | exact Ne.symm (by with_reducible assumption) | exact ne_gt (by with_reducible assumption) | exact ne_lt (by with_reducible assumption) | exact ne_gt (cj0 (by with_reducible assumption)) | exact ne_lt (cj0 (by with_reducible assumption)) | exact ne_gt (cj1 (by with_reducible assumption)) | exact ne_lt (cj1 (by with_reducible assumption)) | exact ne_gt (cj2 (by with_reducible assumption)) | exact ne_lt (cj2 (by with_reducible assumption)) | exact ne_gt (cj3 (by with_reducible assumption)) | exact ne_lt (cj3 (by with_reducible assumption)) | exact ne_gt (cj4 (by with_reducible assumption)) | exact ne_lt (cj4 (by with_reducible assumption)) | exact ne_gt (cj5 (by with_reducible assumption)) | exact ne_lt (cj5 (by with_reducible assumption)) | exact ne_gt (cj6 (by with_reducible assumption)) | exact ne_lt (cj6 (by with_reducible assumption)) | exact ne_gt (cj7 (by with_reducible assumption)) | exact ne_lt (cj7 (by with_reducible assumption)) | exact ne_gt (cj8 (by with_reducible assumption)) | exact ne_lt (cj8 (by with_reducible assumption)) | exact ne_gt (cj9 (by with_reducible assumption)) | exact ne_lt (cj9 (by with_reducible assumption)) | exact ne_gt (cj10 (by with_reducible assumption)) | exact ne_lt (cj10 (by with_reducible assumption)) | exact ne_gt (cj11 (by with_reducible assumption)) | exact ne_lt (cj11 (by with_reducible assumption)) | exact ne_gt (cj12 (by with_reducible assumption)) | exact ne_lt (cj12 (by with_reducible assumption)) | exact ne_gt (cj13 (by with_reducible assumption)) | exact ne_lt (cj13 (by with_reducible assumption)) | exact ne_gt (cj14 (by with_reducible assumption)) | exact ne_lt (cj14 (by with_reducible assumption)) | exact ne_gt (cj15 (by with_reducible assumption)) | exact ne_lt (cj15 (by with_reducible assumption)) | exact ne_gt (cj16 (by with_reducible assumption)) | exact ne_lt (cj16 (by with_reducible assumption)) | exact ne_gt (cj17 (by with_reducible assumption)) | exact ne_lt (cj17 (by with_reducible assumption)) | exact ne_gt (cj18 (by with_reducible assumption)) | exact ne_lt (cj18 (by with_reducible assumption)) | exact ne_gt (cj19 (by with_reducible assumption)) | exact ne_lt (cj19 (by with_reducible assumption)) | exact ne_gt (cj20 (by with_reducible assumption)) | exact ne_lt (cj20 (by with_reducible assumption)) | exact ne_gt (cj21 (by with_reducible assumption)) | exact ne_lt (cj21 (by with_reducible assumption)) | exact ne_gt (cj22 (by with_reducible assumption)) | exact ne_lt (cj22 (by with_reducible assumption)) | exact ne_gt (cj23 (by with_reducible assumption)) | exact ne_lt (cj23 (by with_reducible assumption)) | exact ne_gt (cj24 (by with_reducible assumption)) | exact ne_lt (cj24 (by with_reducible assumption)) | exact ne_gt (cj25 (by with_reducible assumption)) | exact ne_lt (cj25 (by with_reducible assumption)) | exact ne_gt (ck1 (by with_reducible assumption)) | exact ne_lt (ck1 (by with_reducible assumption)) | exact ne_gt (ck2 (by with_reducible assumption)) | exact ne_lt (ck2 (by with_reducible assumption)) | exact ne_gt (ck3 (by with_reducible assumption)) | exact ne_lt (ck3 (by with_reducible assumption)) | exact ne_gt (ck4 (by with_reducible assumption)) | exact ne_lt (ck4 (by with_reducible assumption)) | exact ne_gt (ck5 (by with_reducible assumption)) | exact ne_lt (ck5 (by with_reducible assumption)) | exact ne_gt (ck6 (by with_reducible assumption)) | exact ne_lt (ck6 (by with_reducible assumption)) | exact ne_gt (ck7 (by with_reducible assumption)) | exact ne_lt (ck7 (by with_reducible assumption)) | exact ne_gt (ck8 (by with_reducible assumption)) | exact ne_lt (ck8 (by with_reducible assumption)) | exact ne_gt (ck9 (by with_reducible assumption)) | exact ne_lt (ck9 (by with_reducible assumption)) | exact ne_gt (ck10 (by with_reducible assumption)) | exact ne_lt (ck10 (by with_reducible assumption)) | exact ne_gt (ck11 (by with_reducible assumption)) | exact ne_lt (ck11 (by with_reducible assumption)) | exact ne_gt (ck12 (by with_reducible assumption)) | exact ne_lt (ck12 (by with_reducible assumption)) | exact ne_gt (ck13 (by with_reducible assumption)) | exact ne_lt (ck13 (by with_reducible assumption)) | exact ne_gt (ck14 (by with_reducible assumption)) | exact ne_lt (ck14 (by with_reducible assumption)) | exact ne_gt (ck15 (by with_reducible assumption)) | exact ne_lt (ck15 (by with_reducible assumption)) | exact ne_gt (ck16 (by with_reducible assumption)) | exact ne_lt (ck16 (by with_reducible assumption)) | exact ne_gt (ck17 (by with_reducible assumption)) | exact ne_lt (ck17 (by with_reducible assumption)) | exact ne_gt (ck18 (by with_reducible assumption)) | exact ne_lt (ck18 (by with_reducible assumption)) | exact ne_gt (ck19 (by with_reducible assumption)) | exact ne_lt (ck19 (by with_reducible assumption)) | exact ne_gt (ck20 (by with_reducible assumption)) | exact ne_lt (ck20 (by with_reducible assumption)) | exact ne_gt (ck21 (by with_reducible assumption)) | exact ne_lt (ck21 (by with_reducible assumption)) | exact ne_gt (ck22 (by with_reducible assumption)) | exact ne_lt (ck22 (by with_reducible assumption)) | exact ne_gt (ck23 (by with_reducible assumption)) | exact ne_lt (ck23 (by with_reducible assumption)) | exact ne_gt (ck24 (by with_reducible assumption)) | exact ne_lt (ck24 (by with_reducible assumption)) | exact ne_gt (ck25 (by with_reducible assumption)) | exact ne_lt (ck25 (by with_reducible assumption)))
  k_with "ktr_room" => (first | exact room2 (by with_reducible assumption) (by decide) | exact room1 (by with_reducible assumption) (by decide) | exact room0 (by with_reducible assumption) | exact room3 (by with_reducible assumption) (by decide))
  k_with "ktr_units" => (first | exact room2 (by with_reducible assumption) (by decide) | exact room1 (by with_reducible assumption) (by decide) | exact room0 (by with_reducible assumption) | exact room3 (by with_reducible assumption) (by decide))
  k_with "ke_room" => (first | exact room2 (by with_reducible assumption) (by decide) | exact room1 (by with_reducible assumption) (by decide) | exact room0 (by with_reducible assumption) | exact room3 (by with_reducible assumption) (by decide))
  k_with "compareOp Lt ref ref" => (k_here; (with_reducible show wpAny _ _ (compareOp CmpOp.Lt (Value.ref _) (Value.ref _)) _ _ _); k_dflt (refine lt_dataT (by ked_read) (by ked_read) (by ked_shaped) (by ked_shaped) (by ke_room) (by rfl) ?_); (try simp only [lexT_vec, lexT_head, lexT_tail, lexT_pair]))
  k_with "compareOp LtE ref ref" => (k_here; (with_reducible show wpAny _ _ (compareOp CmpOp.LtE (Value.ref _) (Value.ref _)) _ _ _); k_dflt (refine le_dataT (by ked_read) (by ked_read) (by ked_shaped) (by ked_shaped) (by ke_room) (by rfl) ?_); (try simp only [lexT_vec, lexT_head, lexT_tail, lexT_pair]))
  k_with "compareOp Eq ref ref" => (k_here; (with_reducible show wpAny _ _ (compareOp CmpOp.Eq (Value.ref _) (Value.ref _)) _ _ _); k_dflt (refine eq_dataH (by ked_read) (by ked_read) (by ked_shaped) (by ked_shaped) (by ke_room) ?_); (try simp only [eqv_vec, eqv_head, eqv_pair]))
  k_with "compareOp NotEq ref ref" => (k_here; (with_reducible show wpAny _ _ (compareOp CmpOp.NotEq (Value.ref _) (Value.ref _)) _ _ _); k_dflt (refine ne_dataH (by ked_read) (by ked_read) (by ked_shaped) (by ked_shaped) (by ke_room) ?_); (try simp only [eqv_vec, eqv_head, eqv_pair]))
  exact True.intro
section
variable {w : World} {mean : ExcName → Option Value} {mg mb : Str → Option Value} {dp un : Nat} {gd : Option (List Code)} {cn : Str} {cs : Scope} {a : Addr} {ccd : Value} {cl : List (Str × Addr)} {outer : List Env} {A₀ : Around} {base h₀ : Heap} {L : Addr} {m : Str → Option Value} {s : Shared} {Q E : Value → Shared → Prop}
  {news tl : List (Addr × Obj)} {src : Addr} {x y : Int} {t u tt : Tok} {n : Nat}
  {va vb : Addr} {d e : Vec}

theorem from_ok (B : Below A₀ base outer h₀) (F : Fr h₀ L s.heap m) (X : (hd.heap_39 w.params).In h₀) (N : News h₀ L s.heap news) (T : Top MineHead.VW (looseW MineHead.VW []) mean mg mb h₀) (hk : cs.kind = .function) (V1 : VecIn news va d) (V2 : VecIn news vb e) (hdp : dp + 1 < recursionLimit) (hu : un + 200 < cLine)
    (ret : ∀ (t : Tok) (h' : Heap) (tk' : Nat), Fr h₀ L h' m → News h₀ L h' news → Q (.bool (decide (d.b1 = e.b1) && decide (d.p1 = e.p1))) { s with heap := h', toks := tk' }) :
    wpAny (model PySem.Challenge.rw_pb0537_01.row.prog w) (ktrTop dp un gd cn cs L a ccd cl outer) (call (.ref 95) [.ref va, .ref vb]) Q E s := by
  obtain ⟨r, b, p, t0, t1, t2, t3, t4, t5, t6, m1, m2, m3, m4⟩ := V1
  obtain ⟨r', b', p', t0', t1', t2', t3', t4', t5', t6', n1, n2, n3, n4⟩ := V2
  revert X; k_fill; intro X
  refine wpAny_call ?_
  k_dflt cell_enter
  k_steps
  all_goals cb_end ret

theorem lines5 : True := by
  k_with "call ref" => (k_here; k_dflt (refine' from_ok (by (k_asm)) (by (k_asm)) (by (k_asm)) (by (k_asm)) (by (k_asm)) (by (first | exact rfl | assumption)) (by (assumption)) (by (assumption)) (by (ktr_room)) (by (ktr_units)) ?_; intro _ h' tk' F' N'; (try dsimp only at N'); (try k_sweep); (try dsimp only); (try k_fold)))
  exact True.intro
def sameB (d e : Vec) : Bool := lexL false d.parts e.parts || (!decide (d.parts = e.parts) && (decide (d.b1 = e.b1) && decide (d.p1 = e.p1)))
theorem same_ok (B : Below A₀ base outer h₀) (F : Fr h₀ L s.heap m) (X : (hd.heap_39 w.params).In h₀) (N : News h₀ L s.heap news) (T : Top MineHead.VW (looseW MineHead.VW []) mean mg mb h₀) (hk : cs.kind = .function) (V1 : VecIn news va d) (V2 : VecIn news vb e) (hdp : dp + 2 < recursionLimit) (hu : un + 210 < cLine)
    (ret : ∀ (t : Tok) (h' : Heap) (tk' : Nat), Fr h₀ L h' m → News h₀ L h' news → Q (.bool (sameB d e)) { s with heap := h', toks := tk' }) :
    wpAny (model PySem.Challenge.rw_pb0537_01.row.prog w) (ktrTop dp un gd cn cs L a ccd cl outer) (call (.ref 102) [.ref va, .ref vb]) Q E s := by
  have W1 := V1
  have W2 := V2
  obtain ⟨r, b, p, t0, t1, t2, t3, t4, t5, t6, m1, m2, m3, m4⟩ := V1
  obtain ⟨r', b', p', t0', t1', t2', t3', t4', t5', t6', n1, n2, n3, n4⟩ := V2
  revert X; k_fill; intro X
  refine wpAny_call ?_
  k_dflt cell_enter
  k_steps
  all_goals refine cb_retB (x := sameB d e) ret ?_ (by assumption) (by assumption)
  · have h1 : lexL false d.parts e.parts = true := by assumption
    show lexL false d.parts e.parts = sameB d e
    rw [sameB, h1]; rfl
  · have h1 : lexL false d.parts e.parts = false := by assumption
    have h2 : d.parts = e.parts := by assumption
    show (!decide (d.parts = e.parts)) = sameB d e
    rw [sameB, h1, decide_eq_true h2]; rfl
  · simp only [sameB, Vec.parts, *, decide_false, Bool.false_or, Bool.not_false, Bool.true_and]

theorem lines6 : True := by
  k_with "call ref" => (k_here; k_dflt (refine' same_ok (by (k_asm)) (by (k_asm)) (by (k_asm)) (by (k_asm)) (by (k_asm)) (by (first | exact rfl | assumption)) (by (assumption)) (by (assumption)) (by (ktr_room)) (by (ktr_units)) ?_; intro _ h' tk' F' N'; (try dsimp only at N'); (try k_sweep); (try dsimp only); (try k_fold)))
  exact True.intro
theorem better_ok (B : Below A₀ base outer h₀) (F : Fr h₀ L s.heap m) (X : (hd.heap_39 w.params).In h₀) (N : News h₀ L s.heap news) (T : Top MineHead.VW (looseW MineHead.VW []) mean mg mb h₀) (hk : cs.kind = .function) (V1 : VecIn news va d) (V2 : VecIn news vb e) (hdp : dp + 1 < recursionLimit) (hu : un + 200 < cLine)
    (ret : ∀ (t : Tok) (h' : Heap) (tk' : Nat), Fr h₀ L h' m → News h₀ L h' news → Q (.bool (lexL false d.parts e.parts)) { s with heap := h', toks := tk' }) :
    wpAny (model PySem.Challenge.rw_pb0537_01.row.prog w) (ktrTop dp un gd cn cs L a ccd cl outer) (call (.ref 88) [.ref va, .ref vb]) Q E s := by
  obtain ⟨r, b, p, t0, t1, t2, t3, t4, t5, t6, m1, m2, m3, m4⟩ := V1
  obtain ⟨r', b', p', t0', t1', t2', t3', t4', t5', t6', n1, n2, n3, n4⟩ := V2
  revert X; k_fill; intro X
  refine wpAny_call ?_
  k_dflt cell_enter
  k_steps
  all_goals cb_end ret
theorem lines7 : True := by
  k_with "call ref" => (k_here; k_dflt (refine' better_ok (by (k_asm)) (by (k_asm)) (by (k_asm)) (by (k_asm)) (by (k_asm)) (by (first | exact rfl | assumption)) (by (assumption)) (by (assumption)) (by (ktr_room)) (by (ktr_units)) ?_; intro _ h' tk' F' N'; (try dsimp only at N'); (try k_sweep); (try dsimp only); (try k_fold)))
  exact True.intro
theorem better_none (B : Below A₀ base outer h₀) (F : Fr h₀ L s.heap m) (X : (hd.heap_39 w.params).In h₀) (N : News h₀ L s.heap news) (T : Top MineHead.VW (looseW MineHead.VW []) mean mg mb h₀) (hk : cs.kind = .function) (hdp : dp + 1 < recursionLimit) (hu : un + 200 < cLine)
    (ret : ∀ (t : Tok) (h' : Heap) (tk' : Nat), Fr h₀ L h' m → News h₀ L h' news → Q (.bool true) { s with heap := h', toks := tk' }) :
    wpAny (model PySem.Challenge.rw_pb0537_01.row.prog w) (ktrTop dp un gd cn cs L a ccd cl outer) (call (.ref 88) [.ref va, .none]) Q E s := by
  revert X; k_fill; intro X
  refine wpAny_call ?_
  k_dflt cell_enter
  k_steps
  all_goals cb_end ret

theorem lines8 : True := by
  k_with "call ref" => (k_here; k_dflt (refine' better_none (by (k_asm)) (by (k_asm)) (by (k_asm)) (by (k_asm)) (by (k_asm)) (by (first | exact rfl | assumption))  (by (ktr_room)) (by (ktr_units)) ?_; intro _ h' tk' F' N'; (try dsimp only at N'); (try k_sweep); (try dsimp only); (try k_fold)))
  exact True.intro
theorem parts_ok (B : Below A₀ base outer h₀) (F : Fr h₀ L s.heap m) (X : (hd.heap_39 w.params).In h₀) (N : News h₀ L s.heap news) (T : Top MineHead.VW (looseW MineHead.VW []) mean mg mb h₀) (hk : cs.kind = .function) (V1 : VecIn news va d) (hdp : dp + 1 < recursionLimit) (hu : un + 200 < cLine)
    (ret : ∀ (l : Addr) (t0 t1 t2 t3 t4 t5 t6 : Tok) (h' : Heap) (tk' : Nat), (∀ p ∈ news, p.1 < l) → Fr h₀ L h' m → News h₀ L h' ((l, listOf [.int d.r0 t0, .int d.r1 t1, .int d.c t2, .int d.b0 t3, .int d.b1 t4, .int d.p0 t5, .int d.p1 t6].toArray 0) :: news) → Q (.ref l) { s with heap := h', toks := tk' }) :
    wpAny (model PySem.Challenge.rw_pb0537_01.row.prog w) (ktrTop dp un gd cn cs L a ccd cl outer) (call (.ref 236) [.ref va]) Q E s := by
  obtain ⟨r, b, p, t0, t1, t2, t3, t4, t5, t6, m1, m2, m3, m4⟩ := V1
  revert X; k_fill; intro X
  refine wpAny_call ?_
  k_dflt cell_enter
  k_steps
  exact ret _ _ _ _ _ _ _ _ _ _ (by first | assumption | exact ktn_ltOf (by assumption)) (by assumption) (by assumption)
end

end
section
open PySem PySem.W PyProof.Rows PySem.Spec PySem.Calls
set_option maxRecDepth 100000
set_option maxHeartbeats 8000000

theorem allObj_of : ∀ {ws : List (Addr × String)} {k : List (Addr × Obj) → Prop}, (∀ its, Objs ws its → k its) → AllObj ws k
  | [], _, h => h [] trivial
  | _ :: _, _, h => fun o ho => allObj_of fun its hi => h ((_, o) :: its) ⟨⟨rfl, ho⟩, hi⟩
theorem subL_mem {a b : List (Addr × Obj)} (h : SubL a b) : ∀ p ∈ a, p ∈ b := h.mem

section
variable {prog : Program} {w : World} {A : Around} {E : Value → Shared → Prop} {s : Shared} {env : Env} {h₀ : Heap} {target : Expr} {body : List Stmt} {Q : Flow → Shared → Prop}
/-- what one turn over a pair of ints does: parts them, or goes on -/
def TurnLex (prog : Program) (w : World) (A : Around) (E : Value → Shared → Prop) (h₀ : Heap) (env : Env) (target : Expr) (body : List Stmt) (s : Shared) (news : List (Addr × Obj)) : Prop :=
  ∀ (m : Str → Option Value) (x y : Int) (tx ty : Tok) (T : Addr) (h : Heap) (tk : Nat) (its : List (Addr × Obj)) (P : Flow → Shared → Prop), IsTup h T #[.int x tx, .int y ty] → Fr h₀ env.locals h m → News h₀ env.locals h (its ++ news) →
    (x ≠ y → ∀ h' tk' m', Fr h₀ env.locals h' m' → News h₀ env.locals h' (its ++ news) → P (.ret (.bool (decide (x < y)))) { s with heap := h', toks := tk' }) →
    (x = y → ∀ h' tk' m', Fr h₀ env.locals h' m' → News h₀ env.locals h' (its ++ news) → P .next { s with heap := h', toks := tk' }) →
    wpAny (model prog w) A (assign target env (.ref T)) (fun _ s₂ => wpAny (model prog w) A (execs body env) P E s₂) E { s with heap := h, toks := tk }

theorem items_lex {le : Bool} {ads : List (Addr × String)} {keep news : List (Addr × Obj)} (hk : SubL keep news) (hoff : ∀ p ∈ news, ∀ b ∈ ads.map (·.1), p.1 ≠ b) (turn : TurnLex prog w A E h₀ env target body s news) :
    ∀ (xs ys : List Int) (vs us : List Value) (m : Str → Option Value), IntsAre vs xs → IntsAre us ys → xs.length = ys.length →
      (∀ h' tk' m', Fr h₀ env.locals h' m' → News h₀ env.locals h' news → Q (.ret (.bool (lexL le xs ys))) { s with heap := h', toks := tk' }) →
      (lexL le xs ys = le → ∀ h' tk' m', Fr h₀ env.locals h' m' → News h₀ env.locals h' news → Q .next { s with heap := h', toks := tk' }) →
      ItemsRest prog w A E h₀ env target body Q s ads keep (zipItems vs us) m news
  | [], [], _, _, m, .nil, .nil, _, _, fin => fun h tk F N => fin rfl h tk m F N
  | [], _ :: _, _, _, _, _, _, hl, _, _ => by simp at hl
  | _ :: _, [], _, _, _, _, _, hl, _, _ => by simp at hl
  | x :: xs, y :: ys, _, _, m, .cons _ tx r1, .cons _ ty r2, hl, ret, fin => by
    rintro v h tk ⟨T, t, rfl, hT⟩ F
    refine allObj_of fun its hits N => ?_
    have hfr : ∀ p ∈ news, ∀ q ∈ its, p.1 ≠ q.1 := fun p hp q hq => hoff p hp _ (by rw [← hits.map]; exact List.mem_map.mpr ⟨q, hq, rfl⟩)
    refine turn m x y tx ty T h tk its _ hT F N (fun hne h' tk' m' F' N' => ?_) fun he h' tk' m' F' N' => ?_
    · have e : lexL le (x :: xs) (y :: ys) = decide (x < y) := by rw [lexL, if_neg hne]
      have q := ret h' tk' m' F' fun p hp => N' p (List.mem_append_right _ hp)
      rw [e] at q
      exact q
    · have e : lexL le (x :: xs) (y :: ys) = lexL le xs ys := by rw [lexL, if_pos he]
      rw [e] at ret fin
      exact ⟨h', tk', m', news, rfl, F', N', hfr, hk, items_lex hk hoff turn xs ys _ _ m' r1 r2 (by simpa using hl) ret fin⟩

theorem zip_lex {le : Bool} {elts : List Expr} {k : Nat} {pos : Pos} {l1 l2 : Addr} {vs us : List Value} {xs ys : List Int} {n1 n2 : Nat} {m₀ : Str → Option Value} {news : List (Addr × Obj)}
    (hh : A.handled = none) (F : Fr h₀ env.locals s.heap m₀) (N : News h₀ env.locals s.heap news) (hm1 : (l1, listOf vs.toArray n1) ∈ news) (hm2 : (l2, listOf us.toArray n2) ∈ news) (i1 : IntsAre vs xs) (i2 : IntsAre us ys) (hl : xs.length = ys.length)
    (turn : TurnLex prog w A E h₀ env (.Tuple elts k pos) body s news)
    (ret : ∀ h' tk' m', Fr h₀ env.locals h' m' → News h₀ env.locals h' news → Q (.ret (.bool (lexL le xs ys))) { s with heap := h', toks := tk' })
    (fin : lexL le xs ys = le → ∀ h' tk' m', Fr h₀ env.locals h' m' → News h₀ env.locals h' news → Q .next { s with heap := h', toks := tk' }) :
    wpAny (model prog w) A (call (.type "zip") [.ref l1, .ref l2]) (fun xv s₁ => wpAny (model prog w) A (pyIter xv) (fun it s₂ => TurnsAt prog w A h₀ env (.Tuple elts k pos) body Q E it s₂) E s₁) E s :=
  ktu_zip (lo1 := listOf vs.toArray n1) (lo2 := listOf us.toArray n2) hh F N hm1 rfl rfl hm2 rfl rfl fun I hI => items_lex (keep := [(l1, listOf vs.toArray n1), (l2, listOf us.toArray n2)]) (news := news) (And.intro hm1 (And.intro hm2 trivial)) (fun p hp b hb => by
    have h1 : @LT.lt Nat _ p.1 I := hI p hp
    have hb' : b = I + 4 ∨ b = I + 2 ∨ b = I + 3 ∨ b = I ∨ b = I + 1 := by simpa using hb
    have h2 : @LE.le Nat _ I b := by rcases hb' with h | h | h | h | h <;> rw [h] <;> first | exact Nat.le_refl _ | exact Nat.le_add_right _ _
    exact Nat.ne_of_lt (Nat.lt_of_lt_of_le h1 h2)) turn xs ys vs us m₀ i1 i2 hl ret fin
end

end
section
open PySem PySem.W PyProof.Rows PySem.Spec PySem.Calls
set_option maxRecDepth 100000
set_option maxHeartbeats 8000000
theorem mem_step {q p : Addr × Obj} {l : List (Addr × Obj)} (h : q ∈ l) : q ∈ p :: l := List.Mem.tail _ h
end
local macro_rules | `(tactic| k_mem) => `(tactic| ((repeat (first | exact List.Mem.head _ | with_reducible assumption | refine' mem_step ?_)); done))
section
open PySem PySem.W PyProof.Rows PySem.Spec PySem.Calls
theorem VecIn.sub {l l' : List (Addr × Obj)} {v : Addr} {d : Vec} (V : VecIn l v d) (h : ∀ p ∈ l, p ∈ l') : VecIn l' v d := by
  obtain ⟨r, b, p, t0, t1, t2, t3, t4, t5, t6, m1, m2, m3, m4⟩ := V
  exact ⟨r, b, p, t0, t1, t2, t3, t4, t5, t6, h _ m1, h _ m2, h _ m3, h _ m4⟩
theorem VecIn.step {q : Addr × Obj} {l : List (Addr × Obj)} {v : Addr} {d : Vec} (V : VecIn l v d) : VecIn (q :: l) v d := by
  obtain ⟨r, b, p, t0, t1, t2, t3, t4, t5, t6, m1, m2, m3, m4⟩ := V
  exact ⟨r, b, p, t0, t1, t2, t3, t4, t5, t6, .tail _ m1, .tail _ m2, .tail _ m3, .tail _ m4⟩

theorem lines9 : True := by
  k_with_none
  k_with "k_ne" => (first | with_reducible assumption | exact Ne.symm (by with_reducible assumption) | exact ne_gt (by with_reducible assumption) | exact ne_lt (by with_reducible assumption) | exact ne_gt (cj0 (by with_reducible assumption)) | exact ne_lt (cj0 (by with_reducible assumption)) | exact ne_gt (cj1 (by with_reducible assumption)) | exact ne_lt (cj1 (by with_reducible assumption)) | exact ne_gt (cj2 (by with_reducible assumption)) | exact ne_lt (cj2 (by with_reducible assumption)) | exact ne_gt (cj3 (by with_reducible assumption)) | exact ne_lt (cj3 (by with_reducible assumption)) | exact ne_gt (cj4 (by with_reducible assumption)) | exact ne_lt (cj4 (by with_reducible assumption)) | exact ne_gt (cj5 (by with_reducible assumption)) | exact ne_lt (cj5 (by with_reducible assumption)) | exact ne_gt (cj6 (by with_reducible assumption)) | exact ne_lt (cj6 (by with_reducible assumption)) | exact ne_gt (cj7 (by with_reducible assumption)) | exact ne_lt (cj7 (by with_reducible assumption)) | exact ne_gt (cj8 (by with_reducible assumption)) | exact ne_lt (cj8 (by with_reducible assumption)) | exact ne_gt (cj9 (by with_reducible assumption)) | exact ne_lt (cj9 (by with_reducible assumption)) | exact ne_gt (cj10 (by with_reducible assumption)) | exact ne_lt (cj10 (by with_reducible assumption)) | exact ne_gt (cj11 (by with_reducible assumption)) | exact ne_lt (cj11 (by with_reducible assumption)) | exact ne_gt (cj12 (by with_reducible assumption)) | exact ne_lt (cj12 (by with_reducible assumption)) | exact ne_gt (cj13 (by with_reducible assumption)) | exact ne_lt (cj13 (by with_reducible assumption)) | exact ne_gt (cj14 (by with_reducible assumption)) | exact ne_lt (cj14 (by with_reducible assumption)) | exact ne_gt (cj15 (by with_reducible assumption)) | exact ne_lt (cj15 (by with_reducible assumption)) | exact ne_gt (cj16 (by with_reducible assumption)) | exact ne_lt (cj16 (by with_reducible assumption)) | exact ne_gt (cj17 (by with_reducible assumption)) | exact ne_lt (cj17 (by with_reducible assumption)) | exact ne_gt (cj18 (by with_reducible assumption)) | exact ne_lt (cj18 (by with_reducible assumption)) | exact ne_gt (cj19 (by with_reducible assumption)) | exact ne_lt (cj19 (by with_reducible assumption)) | exact ne_gt (cj20 (by with_reducible assumption)) | exact ne_lt (cj20 (by with_reducible assumption)) | exact ne_gt (cj21 (by with_reducible assumption)) | exact ne_lt (cj21 (by with_reducible assumption)) | exact ne_gt (cj22 (by with_reducible assumption)) | exact ne_lt (cj22 (by with_reducible assumption)) | exact ne_gt (cj23 (by with_reducible assumption)) | exact ne_lt (cj23 (by with_reducible assumption)) | exact ne_gt (cj24 (by with_reducible assumption)) | exact ne_lt (cj24 (by with_reducible assumption)) | exact ne_gt (cj25 (by with_reducible assumption)) | exact ne_lt (cj25 (by with_reducible assumption)) | exact ne_gt (ck1 (by with_reducible assumption)) | exact ne_lt (ck1 (by with_reducible assumption)) | exact ne_gt (ck2 (by with_reducible assumption)) | exact ne_lt (ck2 (by with_reducible assumption)) | exact ne_gt (ck3 (by with_reducible assumption)) | exact ne_lt (ck3 (by with_reducible assumption)) | exact ne_gt (ck4 (by with_reducible assumption)) | exact ne_lt (ck4 (by with_reducible assumption)) | exact ne_gt (ck5 (by with_reducible assumption)) | exact ne_lt (ck5 (by with_reducible assumption)) | exact ne_gt (ck6 (by with_reducible assumption)) | exact ne_lt (ck6 (by with_reducible assumption)) | exact ne_gt (ck7 (by with_reducible assumption)) | exact ne_lt (ck7 (by with_reducible assumption)) | exact ne_gt (ck8 (by with_reducible assumption)) | exact ne_lt (ck8 (by with_reducible assumption)) | exact ne_gt (ck9 (by with_reducible assumption)) | exact ne_lt (ck9 (by with_reducible assumption)) | exact ne_gt (ck10 (by with_reducible assumption)) | exact ne_lt (ck10 (by with_reducible assumption)) | exact ne_gt (ck11 (by with_reducible assumption)) | exact ne_lt (ck11 (by with_reducible assumption)) | exact ne_gt (ck12 (by with_reducible assumption)) | exact ne_lt (ck12 (by with_reducible assumption)) | exact ne_gt (ck13 (by with_reducible assumption)) | exact ne_lt (ck13 (by with_reducible assumption)) | exact ne_gt (ck14 (by with_reducible assumption)) | exact ne_lt (ck14 (by with_reducible assumption)) | exact ne_gt (ck15 (by with_reducible assumption)) | exact ne_lt (ck15 (by with_reducible assumption)) | exact ne_gt (ck16 (by with_reducible assumption)) | exact ne_lt (ck16 (by with_reducible assumption)) | exact ne_gt (ck17 (by with_reducible assumption)) | exact ne_lt (ck17 (by with_reducible assumption)) | exact ne_gt (ck18 (by with_reducible assumption)) | exact ne_lt (ck18 (by with_reducible assumption)) | exact ne_gt (ck19 (by with_reducible assumption)) | exact ne_lt (ck19 (by with_reducible assumption)) | exact ne_gt (ck20 (by with_reducible assumption)) | exact ne_lt (ck20 (by with_reducible assumption)) | exact ne_gt (ck21 (by with_reducible assumption)) | exact ne_lt (ck21 (by with_reducible assumption)) | exact ne_gt (ck22 (by with_reducible assumption)) | exact ne_lt (ck22 (by with_reducible assumption)) | exact ne_gt (ck23 (by with_reducible assumption)) | exact ne_lt (ck23 (by with_reducible assumption)) | exact ne_gt (ck24 (by with_reducible assumption)) | exact ne_lt (ck24 (by with_reducible assumption)) | exact ne_gt (ck25 (by with_reducible assumption)) | exact ne_lt (ck25 (by with_reducible assumption)))
  k_with "ktr_room" => (first | exact room2 (by with_reducible assumption) (by decide) | exact room1 (by with_reducible assumption) (by decide) | exact room0 (by with_reducible assumption) | exact room3 (by with_reducible assumption) (by decide))
  k_with "ktr_units" => (first | exact room2 (by with_reducible assumption) (by decide) | exact room1 (by with_reducible assumption) (by decide) | exact room0 (by with_reducible assumption) | exact room3 (by with_reducible assumption) (by decide))
  k_with "ke_room" => (first | exact room2 (by with_reducible assumption) (by decide) | exact room1 (by with_reducible assumption) (by decide) | exact room0 (by with_reducible assumption) | exact room3 (by with_reducible assumption) (by decide))
  k_with "compareOp Lt ref ref" => (k_here; (with_reducible show wpAny _ _ (compareOp CmpOp.Lt (Value.ref _) (Value.ref _)) _ _ _); k_dflt (refine lt_dataT (by ked_read) (by ked_read) (by ked_shaped) (by ked_shaped) (by ke_room) (by rfl) ?_); (try simp only [lexT_vec, lexT_head, lexT_tail, lexT_pair]))
  k_with "compareOp LtE ref ref" => (k_here; (with_reducible show wpAny _ _ (compareOp CmpOp.LtE (Value.ref _) (Value.ref _)) _ _ _); k_dflt (refine le_dataT (by ked_read) (by ked_read) (by ked_shaped) (by ked_shaped) (by ke_room) (by rfl) ?_); (try simp only [lexT_vec, lexT_head, lexT_tail, lexT_pair]))
  k_with "call ref" => (k_here; k_dflt (refine' from_ok (by (k_asm)) (by (k_asm)) (by (k_asm)) (by (k_asm)) (by (k_asm)) (by (first | exact rfl | assumption)) (by (first | assumption | exact VecIn.sub (by assumption) (by kqd_sub))) (by (first | assumption | exact VecIn.sub (by assumption) (by kqd_sub))) (by (ktr_room)) (by (ktr_units)) ?_; intro _ h' tk' F' N'; (try dsimp only at N'); (try k_sweep); (try dsimp only); (try k_fold)))
  k_with "call ref" => (k_here; k_dflt (refine' same_ok (by (k_asm)) (by (k_asm)) (by (k_asm)) (by (k_asm)) (by (k_asm)) (by (first | exact rfl | assumption)) (by (first | assumption | exact VecIn.sub (by assumption) (by kqd_sub))) (by (first | assumption | exact VecIn.sub (by assumption) (by kqd_sub))) (by (ktr_room)) (by (ktr_units)) ?_; intro _ h' tk' F' N'; (try dsimp only at N'); (try k_sweep); (try dsimp only); (try k_fold)))
  k_with "call ref" => (k_here; k_dflt (refine' better_ok (by (k_asm)) (by (k_asm)) (by (k_asm)) (by (k_asm)) (by (k_asm)) (by (first | exact rfl | assumption)) (by (first | assumption | exact VecIn.sub (by assumption) (by kqd_sub))) (by (first | assumption | exact VecIn.sub (by assumption) (by kqd_sub))) (by (ktr_room)) (by (ktr_units)) ?_; intro _ h' tk' F' N'; (try dsimp only at N'); (try k_sweep); (try dsimp only); (try k_fold)))
  k_with "call ref" => (k_here; k_dflt (refine' better_none (by (k_asm)) (by (k_asm)) (by (k_asm)) (by (k_asm)) (by (k_asm)) (by (first | exact rfl | assumption))  (by (ktr_room)) (by (ktr_units)) ?_; intro _ h' tk' F' N'; (try dsimp only at N'); (try k_sweep); (try dsimp only); (try k_fold)))
  k_with "call ref" => (k_here; k_dflt (refine' parts_ok (by (k_asm)) (by (k_asm)) (by (k_asm)) (by (k_asm)) (by (k_asm)) (by (first | exact rfl | assumption)) (by (first | assumption | exact VecIn.sub (by assumption) (by kqd_sub))) (by (ktr_room)) (by (ktr_units)) ?_; intro l' t0' t1' t2' t3' t4' t5' t6' h' tk' l1 F' N'; (try dsimp only at N'); (try k_lt l1); (try k_sweep); (try dsimp only); (try k_fold)))
  k_with "exec For Tuple Call cons nil" => (k_here; (rename Fr _ _ _ _ => lF'); (with_unfolding_all refine' For_turns lF' ?_; k_whole))
  exact True.intro
theorem turn_go {prog : Program} {w : World} {A : Around} {E : Value → Shared → Prop} {s : Shared} {env : Env} {h₀ : Heap} {target : Expr} {body : List Stmt} {news : List (Addr × Obj)}
    (h : ∀ (m : Str → Option Value) (x y : Int) (tx ty : Tok) (T : Addr) (h : Heap) (tk : Nat) (its : List (Addr × Obj)) (P : Flow → Shared → Prop), IsTup h T #[.int x tx, .int y ty] → Fr h₀ env.locals h m → News h₀ env.locals h (its ++ news) →
    (x ≠ y → ∀ h' tk' m', Fr h₀ env.locals h' m' → News h₀ env.locals h' (its ++ news) → P (.ret (.bool (decide (x < y)))) { s with heap := h', toks := tk' }) →
    (x = y → ∀ h' tk' m', Fr h₀ env.locals h' m' → News h₀ env.locals h' (its ++ news) → P .next { s with heap := h', toks := tk' }) →
    wpAny (model prog w) A (assign target env (.ref T)) (fun _ s₂ => wpAny (model prog w) A (execs body env) P E s₂) E { s with heap := h, toks := tk }) : TurnLex prog w A E h₀ env target body s news := h
theorem lines10 : True := by
  k_with "call type:zip" => (k_here; (with_reducible show wpAny _ _ (call (Value.type _) [Value.ref _, Value.ref _]) (fun xv s₁ => wpAny _ _ (pyIter xv) (fun it s₂ => TurnsAt _ _ _ _ _ _ _ _ _ it s₂) _ s₁) _ _); (rename Fr _ _ _ _ => lF'); (rename News _ _ _ _ => lN'); k_dflt (refine' zip_lex (le := false) (n1 := _) (n2 := _) (by (rfl)) lF' lN' (by (k_mem)) (by (k_mem)) (by (repeat constructor); (fail_if_success exfalso)) (by (repeat constructor); (fail_if_success exfalso)) (by (rfl)) ?_ ?_ ?_; ((refine turn_go ?_; intro m' x' y' tx' ty' T' h' tk' its' P' hT' F' N' hret' hnext')); rotate_left; (intro h' tk' m' F' N'); rotate_left; (intro hle' h' tk' m' F' N'); rotate_left); (try k_fold))
  k_with "eval Call" => (k_here; k_dflt (refine Call_ ?_))
  exact True.intro
section
variable {w : World} {mean : ExcName → Option Value} {mg mb : Str → Option Value} {dp un : Nat} {gd : Option (List Code)} {cn : Str} {cs : Scope} {a : Addr} {ccd : Value} {cl : List (Str × Addr)} {outer : List Env} {A₀ : Around} {base h₀ : Heap} {L : Addr} {m : Str → Option Value} {s : Shared} {Q E : Value → Shared → Prop}
  {news tl : List (Addr × Obj)} {src : Addr} {x y : Int} {t u tt : Tok} {n : Nat}
  {va vb : Addr} {d e : Vec}
theorem less_ok (B : Below A₀ base outer h₀) (F : Fr h₀ L s.heap m) (X : (hd.heap_39 w.params).In h₀) (N : News h₀ L s.heap news) (T : Top MineHead.VW (looseW MineHead.VW []) mean mg mb h₀) (hk : cs.kind = .function) (V1 : VecIn news va d) (V2 : VecIn news vb e) (hdp : dp + 2 < recursionLimit) (hu : un + 210 < cLine)
    (ret : ∀ (t : Tok) (h' : Heap) (tk' : Nat), Fr h₀ L h' m → News h₀ L h' news → Q (.bool (lexL false d.parts e.parts)) { s with heap := h', toks := tk' }) :
    wpAny (model PySem.Challenge.rw_pb0537_01.row.prog w) (ktrTop dp un gd cn cs L a ccd cl outer) (call (.ref 243) [.ref va, .ref vb]) Q E s := by
  revert X; k_fill; intro X
  refine wpAny_call ?_
  k_dflt cell_enter
  k_steps
  all_goals first
    | (refine cb_retB (x := lexL false d.parts e.parts) ret ?_ (by assumption) (cb_drop (by assumption) (by kqd_sub)); first | rfl | exact Eq.symm (by assumption))
    | (rename (_ ≠ _ → _) => hr; exact hr (by assumption) _ _ _ (by assumption) (by assumption))
    | (rename (_ = _ → _) => hr; exact hr (by assumption) _ _ _ (by assumption) (by assumption))

theorem lines11 : True := by
  k_with "call ref" => (k_here; k_dflt (refine' less_ok (by (k_asm)) (by (k_asm)) (by (k_asm)) (by (k_asm)) (by (k_asm)) (by (first | exact rfl | assumption)) (by (first | assumption | exact VecIn.sub (by assumption) (by kqd_sub))) (by (first | assumption | exact VecIn.sub (by assumption) (by kqd_sub))) (by (ktr_room)) (by (ktr_units)) ?_; intro _ h' tk' F' N'; (try dsimp only at N'); (try k_sweep); (try dsimp only); (try k_fold)))
  exact True.intro
theorem pair_ok (B : Below A₀ base outer h₀) (F : Fr h₀ L s.heap m) (X : (hd.heap_39 w.params).In h₀) (N : News h₀ L s.heap news) (T : Top MineHead.VW (looseW MineHead.VW []) mean mg mb h₀) (hk : cs.kind = .function) (V1 : VecIn news va d) (V2 : VecIn news vb e) (hdp : dp + 3 < recursionLimit) (hu : un + 220 < cLine)
    (ret : ∀ (t : Tok) (h' : Heap) (tk' : Nat), Fr h₀ L h' m → News h₀ L h' news → Q (.bool true) { s with heap := h', toks := tk' }) :
    wpAny (model PySem.Challenge.rw_pb0537_01.row.prog w) (ktrTop dp un gd cn cs L a ccd cl outer) (call (.ref 250) [.ref va, .ref vb]) Q E s := by
  have W1 := V1
  have W2 := V2
  obtain ⟨r, b, p, t0, t1, t2, t3, t4, t5, t6, m1, m2, m3, m4⟩ := V1
  obtain ⟨r', b', p', t0', t1', t2', t3', t4', t5', t6', n1, n2, n3, n4⟩ := V2
  revert X; k_fill; intro X
  refine wpAny_call ?_
  k_dflt cell_enter
  k_steps
  all_goals (refine cb_retB (x := true) ret ?_ (by assumption) (cb_drop (by assumption) (by kqd_sub)))
  all_goals first
    | (have h1 : (lexL false d.parts e.parts != lexL false d.parts e.parts) = true := by assumption
       rw [bne_self_eq_false] at h1; exact h1)
    | exact absurd (show d.b1 = e.b1 by assumption) (by assumption)
    | (have h1 : lexL false d.parts e.parts = true := by assumption
       show (sameB d e == lexL false d.parts e.parts) = true
       rw [sameB, h1]; rfl)
    | (have h1 : lexL false d.parts e.parts = false := by assumption
       have h2 : d.b1 = e.b1 := by assumption
       have h3 : d.p1 = e.p1 := by assumption
       show (sameB d e == !decide (d.parts = e.parts)) = true
       rw [sameB, h1, decide_eq_true h2, decide_eq_true h3]
       cases decide (d.parts = e.parts) <;> rfl)
    | (have h1 : lexL false d.parts e.parts = false := by assumption
       have h3 : d.p1 ≠ e.p1 := by assumption
       show (sameB d e == (d.p1 == e.p1)) = true
       rw [sameB, h1, decide_eq_false h3, beq_false_of_ne h3]
       cases decide (d.parts = e.parts) <;> cases decide (d.b1 = e.b1) <;> rfl)
    | (have h1 : lexL false d.parts e.parts = false := by assumption
       have h3 : d.b1 ≠ e.b1 := by assumption
       show (sameB d e == (d.b1 == e.b1)) = true
       rw [sameB, h1, decide_eq_false h3, beq_false_of_ne h3]
       cases decide (d.parts = e.parts) <;> rfl)
end

end
section
open PySem PySem.W PyProof.Rows PySem.Spec PySem.Calls
set_option maxRecDepth 100000
set_option maxHeartbeats 8000000

section
variable {prog : Program} {w : World} {A : Around} {E : Value → Shared → Prop} {s : Shared}
/-- one more item of a tuple's iterator -/
theorem nextOf_tup {it t : Addr} {i : Nat} {items : Array Value} {x : Value} {Q : Value → Shared → Prop} (hit : s.heap.IsTupleIter it t i) (ht : s.heap.IsTuple t items) (hx : items[i]? = some x)
    (hQ : ∀ h', h'.IsTupleIter it t (i + 1) → Heap.SameBut it s.heap h' → Q x { s with heap := h' }) : wpAny (model prog w) A (Builtin.SmallTypes.nextOf (.ref it)) Q E s := by
  obtain ⟨o, ho, hc, hd⟩ := id hit
  obtain ⟨ol, hol, _, nl, hdl⟩ := ht
  unfold Builtin.SmallTypes.nextOf
  refine wpAny_bind (wpAny_callSpecial?_slot (name := Str.ofString "__next__") hit.typeIs F.slot_tuple_iterator_next
    (wpAny_call_entry F.slot_tuple_iterator_next hit.typeIs F.entry_tuple_iterator_next ?_ (F.args_tuple_iterator_next_1 _)))
  show wpAny _ _ (field (.ref it) 0 >>= _) _ _ s
  refine wpAny_bind (wpAny_field ho hd (x := .ref t) rfl ?_)
  show wpAny _ _ (if (Value.ref t == Value.none) = true then _ else _) _ _ s
  rw [if_neg (show ¬ ((Value.ref t == Value.none) = true) from Bool.false_ne_true)]
  show wpAny _ _ (field (.ref it) 1 >>= _) _ _ s
  refine wpAny_bind (wpAny_field ho hd (x := .int i 0) rfl ?_)
  show wpAny _ _ (seqItems? (.ref t) >>= _) _ _ s
  refine wpAny_bind (wpAny_seqItems hol hdl ?_)
  simp only [Int.toNat_natCast, hx]
  refine wpAny_bind (wpAny_setField ho hd (by simp) (wpAny_pure ⟨x, rfl, wpAny_pure (hQ _ ?_ (Heap.SameBut.update ..))⟩))
  exact ⟨_, Heap.get?_update_self _ ho (Obj.isFreed_of_fields (Obj.data_mapFields hd _)), (Obj.cls_mapFields ..).trans hc, by
    rw [Obj.data_mapFields hd]; simp [rawInt]⟩
/-- its end -/
theorem nextOf_tup_end {it t : Addr} {i : Nat} {items : Array Value} {Q : Value → Shared → Prop} (hh : A.handled = none) (hit : s.heap.IsTupleIter it t i) (ht : s.heap.IsTuple t items) (hx : items[i]? = none)
    (hE : ∀ h' e, Heap.ExtBut it s.heap h' → (∃ o, h'.get? e = some o ∧ o.cls = .type "StopIteration") → E (.ref e) { s with heap := h' }) :
    wpAny (model prog w) A (Builtin.SmallTypes.nextOf (.ref it)) Q E s := by
  obtain ⟨o, ho, hc, hd⟩ := id hit
  obtain ⟨ol, hol, _, nl, hdl⟩ := ht
  unfold Builtin.SmallTypes.nextOf
  refine wpAny_bind (wpAny_callSpecial?_slot (name := Str.ofString "__next__") hit.typeIs F.slot_tuple_iterator_next
    (wpAny_call_entry F.slot_tuple_iterator_next hit.typeIs F.entry_tuple_iterator_next ?_ (F.args_tuple_iterator_next_1 _)))
  show wpAny _ _ (field (.ref it) 0 >>= _) _ _ s
  refine wpAny_bind (wpAny_field ho hd (x := .ref t) rfl ?_)
  show wpAny _ _ (if (Value.ref t == Value.none) = true then _ else _) _ _ s
  rw [if_neg (show ¬ ((Value.ref t == Value.none) = true) from Bool.false_ne_true)]
  show wpAny _ _ (field (.ref it) 1 >>= _) _ _ s
  refine wpAny_bind (wpAny_field ho hd (x := .int i 0) rfl ?_)
  show wpAny _ _ (seqItems? (.ref t) >>= _) _ _ s
  refine wpAny_bind (wpAny_seqItems hol hdl ?_)
  simp only [Int.toNat_natCast, hx]
  refine wpAny_bind (wpAny_rule (wpAny_bind (wpAny_setField ho hd (by simp) ?_)))
  show wpAny _ _ (newExc (.type "StopIteration") [] >>= _) _ _ _
  refine wpAny_bind ?_
  simp only [newExc, newTuple]
  refine wpAny_bind (wpAny_newObj_type ?_ (by size_fits))
  refine wpAny_bind (m := firstArgMember _ _) (wpAny_of_eq (a := Value.none) (by first | rfl | (simp only [firstArgMember]; rfl)) ?_)
  refine wpAny_newObj_type ?_ (by size_fits)
  simp only [raiseNew]
  refine wpAny_bind (wpAny_handled ?_)
  first | rw [show A.in1.handled = none from hh] | rw [hh]
  refine wpAny_bind (wpAny_pure (wpAny_throw ?_))
  exact hE _ _ (((Heap.SameBut.update ..).extBut.push _).push _) ⟨_, Heap.get?_push_size _ rfl, rfl⟩
end

/-- what a zip draws from: iterators over sequences of one kind -/
structure Draw where
  It : Heap → Addr → Addr → Nat → Prop
  Sq : Heap → Addr → Array Value → Prop
  itAt : ∀ {h h' : Heap} {i l : Addr} {k : Nat}, It h i l k → (∀ o, h.get? i = some o → h'.get? i = some o) → It h' i l k
  sqAt : ∀ {h h' : Heap} {l : Addr} {xs : Array Value}, Sq h l xs → (∀ o, h.get? l = some o → h'.get? l = some o) → Sq h' l xs
  itHas : ∀ {h : Heap} {i l : Addr} {k : Nat}, It h i l k → ∃ o, h.get? i = some o
  next : ∀ {prog : Program} {w : World} {A : Around} {E : Value → Shared → Prop} {s : Shared} {i l : Addr} {k : Nat} {xs : Array Value} {x : Value} {Q : Value → Shared → Prop}, It s.heap i l k → Sq s.heap l xs → xs[k]? = some x →
    (∀ h', It h' i l (k + 1) → Heap.SameBut i s.heap h' → Q x { s with heap := h' }) → wpAny (model prog w) A (Builtin.SmallTypes.nextOf (.ref i)) Q E s
  stop : ∀ {prog : Program} {w : World} {A : Around} {E : Value → Shared → Prop} {s : Shared} {i l : Addr} {k : Nat} {xs : Array Value} {Q : Value → Shared → Prop}, A.handled = none → It s.heap i l k → Sq s.heap l xs → xs[k]? = none →
    (∀ h' e, Heap.ExtBut i s.heap h' → (∃ o, h'.get? e = some o ∧ o.cls = .type "StopIteration") → E (.ref e) { s with heap := h' }) → wpAny (model prog w) A (Builtin.SmallTypes.nextOf (.ref i)) Q E s
def drawT : Draw where
  It := fun h i l k => h.IsTupleIter i l k
  Sq := fun h l xs => h.IsTuple l xs
  itAt := fun x e => x.at e
  sqAt := fun x e => x.at e
  itHas := fun x => let ⟨o, ho, _⟩ := x; ⟨o, ho⟩
  next := fun a b c d => nextOf_tup a b c d
  stop := fun a b c d e => nextOf_tup_end a b c d e

section
variable {prog : Program} {w : World} {A : Around} {E : Value → Shared → Prop} {s : Shared} {K : Draw}
/-- the zip's own state: its record, its iterators' pair, its own pair, what the iterators stand at -/
def ZipSt (K : Draw) (z TI TO i1 i2 l1 l2 : Addr) (f0 : Value) (k1 k2 : Nat) (xs ys : Array Value) (h : Heap) : Prop :=
  IsZip h z TI TO f0 ∧ IsPair h TI (.ref i1) (.ref i2) ∧ (∃ a b, IsPair h TO a b) ∧ K.It h i1 l1 k1 ∧ K.It h i2 l2 k2 ∧ K.Sq h l1 xs ∧ K.Sq h l2 ys
theorem zipK_next {z TI TO i1 i2 l1 l2 : Addr} {k1 k2 : Nat} {xs ys : Array Value} {x y : Value} {Q : Value → Shared → Prop} (D : ZipApart z TI TO i1 i2 l1 l2) (st : ZipSt K z TI TO i1 i2 l1 l2 .none k1 k2 xs ys s.heap)
    (hx : xs[k1]? = some x) (hy : ys[k2]? = some y)
    (hQ : ∀ h', ZipSt K z TI TO i1 i2 l1 l2 (rawInt s.heap.objs.size) (k1 + 1) (k2 + 1) xs ys h' → IsPair h' s.heap.objs.size x y →
      (∀ c o, c ≠ z → c ≠ TO → c ≠ i1 → c ≠ i2 → s.heap.get? c = some o → h'.get? c = some o) → Q (.ref s.heap.objs.size) { s with heap := h' }) :
    wpAny (model prog w) A (Builtin.«zip.__next__» ⟨[.ref z], []⟩) (fun fin s' => ∃ v, fin = .done (.ret v) ∧ Q v s') E s := by
  obtain ⟨hz, hTI, ⟨a, b, hTO⟩, h1, h2, hl1, hl2⟩ := st
  show wpAny _ _ (field (.ref z) 2 >>= _) _ _ _
  refine wpAny_bind (wpAny_field hz rfl (x := .bool false) rfl ?_)
  show wpAny _ _ (field (.ref z) 3 >>= _) _ _ _
  refine wpAny_bind (wpAny_field hz rfl (x := .ref TI) rfl (wpAny_bind (wpAny_seqItems hTI rfl ?_)))
  show wpAny _ _ (Builtin.SmallTypes.ownedTupleIsFree (.ref z) >>= _) _ _ _
  refine wpAny_bind ?_
  unfold Builtin.SmallTypes.ownedTupleIsFree
  refine wpAny_bind (wpAny_field hz rfl (x := .none) rfl (wpAny_pure ?_))
  simp only [if_true]
  refine wpAny_bind (wpAny_rule (wpAny_bind (wpAny_field hz rfl (x := .ref TO) rfl (wpAny_bind (wpAny_setField_rec hz (by simp) fun h₁ hz₁ hs₁ => ?_)))))
  replace hz₁ : IsZip h₁ z TI TO .ellipsis := hz₁
  refine wpAny_bind ?_
  simp only [List.zipIdx_cons, List.zipIdx_nil, List.forIn_cons, List.forIn_nil]
  have g₁ : ∀ c, c ≠ z → ∀ o, s.heap.get? c = some o → h₁.get? c = some o := fun c n o e => hs₁.extBut _ _ n e
  refine wpAny_bind (wpAny_bind (wpAny_onRaise ?_))
  show wpAny _ _ (Builtin.SmallTypes.nextOf (.ref i1) >>= _) _ _ _
  refine wpAny_bind (K.next (K.itAt h1 (g₁ _ D.i1z)) (K.sqAt hl1 (g₁ _ D.l1z)) hx fun h₂ it₂ hs₂ => wpAny_pure ?_)
  have g₂ : ∀ c, c ≠ z → c ≠ i1 → ∀ o, s.heap.get? c = some o → h₂.get? c = some o := fun c n n' o e => hs₂.extBut _ _ n' (g₁ c n o e)
  have TO₂ : IsPair h₂ TO a b := g₂ _ D.TOz D.TOi1 _ hTO
  refine wpAny_bind (wpAny_seqItems TO₂ rfl (wpAny_bind (wpAny_updateSeq_pair TO₂ fun h₃ TO₃ hs₃ => ?_)))
  replace TO₃ : IsPair h₃ TO x b := TO₃
  refine wpAny_bind (wpAny_letGo (wpAny_pure ?_))
  have g₃ : ∀ c, c ≠ z → c ≠ i1 → c ≠ TO → ∀ o, s.heap.get? c = some o → h₃.get? c = some o := fun c n n' n'' o e => hs₃.extBut _ _ n'' (g₂ c n n' o e)
  refine wpAny_bind (wpAny_bind (wpAny_onRaise ?_))
  show wpAny _ _ (Builtin.SmallTypes.nextOf (.ref i2) >>= _) _ _ _
  refine wpAny_bind (K.next (K.itAt h2 (g₃ _ D.i2z D.i12.symm D.TOi2.symm)) (K.sqAt hl2 (g₃ _ D.l2z D.l2i1 D.l2TO)) hy fun h₄ it₄ hs₄ => wpAny_pure ?_)
  have TO₄ : IsPair h₄ TO x b := hs₄.extBut _ _ D.TOi2 TO₃
  refine wpAny_bind (wpAny_seqItems TO₄ rfl (wpAny_bind (wpAny_updateSeq_pair TO₄ fun h₅ TO₅ hs₅ => ?_)))
  replace TO₅ : IsPair h₅ TO x y := TO₅
  refine wpAny_bind (wpAny_letGo (wpAny_pure (wpAny_pure ?_)))
  have g₅ : ∀ c, c ≠ z → c ≠ TO → c ≠ i1 → c ≠ i2 → ∀ o, s.heap.get? c = some o → h₅.get? c = some o := fun c n n' n'' n3 o e => hs₅.extBut _ _ n' (hs₄.extBut _ _ n3 (g₃ c n n'' n' o e))
  have z₅ : IsZip h₅ z TI TO .ellipsis := hs₅.extBut _ _ D.TOz.symm (hs₄.extBut _ _ D.i2z.symm (hs₃.extBut _ _ D.TOz.symm (hs₂.extBut _ _ D.i1z.symm hz₁)))
  have a₅ : K.It h₅ i1 l1 (k1 + 1) := K.itAt it₂ fun o e => hs₅.extBut _ _ D.TOi1.symm (hs₄.extBut _ _ D.i12 (hs₃.extBut _ _ D.TOi1.symm e))
  have b₅ : K.It h₅ i2 l2 (k2 + 1) := K.itAt it₄ fun o e => hs₅.extBut _ _ D.TOi2.symm e
  have hsz : h₅.objs.size = s.heap.objs.size := by rw [hs₅.1, hs₄.1, hs₃.1, hs₂.1, hs₁.1]
  refine wpAny_bind (wpAny_seqItems TO₅ rfl (wpAny_bind (wpAny_newTuple ?_)))
  show wpAny _ _ (Builtin.SmallTypes.ownedTupleHandOut (.ref z) (.ref h₅.objs.size) >>= _) _ _ _
  refine wpAny_bind ?_
  unfold Builtin.SmallTypes.ownedTupleHandOut
  have z₆ : IsZip (h₅.push { cls := .type "tuple", data := .seq #[x, y] }) z TI TO .ellipsis := Heap.get?_push_of_some _ z₅
  refine wpAny_bind (wpAny_setField_rec z₆ (by simp) fun h₇ z₇ hs₇ => ?_)
  replace z₇ : IsZip h₇ z TI TO (rawInt h₅.objs.size) := z₇
  refine wpAny_setField_rec z₇ (by simp) fun h₈ z₈ hs₈ => ?_
  replace z₈ : IsZip h₈ z TI TO (rawInt h₅.objs.size) := z₈
  have up : ∀ c, c ≠ z → ∀ o, h₅.get? c = some o → h₈.get? c = some o := fun c n o e => hs₈.extBut _ _ n (hs₇.extBut _ _ n (Heap.get?_push_of_some _ e))
  have zlt : z < h₅.objs.size := Heap.lt_size z₅
  have new₈ : IsPair h₈ h₅.objs.size x y := hs₈.extBut _ _ (Nat.ne_of_gt zlt) (hs₇.extBut _ _ (Nat.ne_of_gt zlt) (Heap.get?_push_size _ rfl))
  rw [hsz] at z₈ new₈
  refine wpAny_pure ⟨_, rfl, ?_⟩
  show Q (.ref h₅.objs.size) _
  rw [hsz]
  exact hQ h₈ ⟨z₈, up _ D.TIz _ (g₅ _ D.TIz D.TITO D.TIi1 D.TIi2 _ hTI), ⟨x, y, up _ D.TOz _ TO₅⟩, K.itAt a₅ (up _ D.i1z), K.itAt b₅ (up _ D.i2z),
    K.sqAt hl1 fun o e => up _ D.l1z o (g₅ _ D.l1z D.l1TO D.l1i1 D.l1i2 o e), K.sqAt hl2 fun o e => up _ D.l2z o (g₅ _ D.l2z D.l2TO D.l2i1 D.l2i2 o e)⟩ new₈ fun c o n n' n'' n3 e => up c n o (g₅ c n n' n'' n3 o e)
theorem zipK_stop {z TI TO i1 i2 l1 l2 : Addr} {k1 k2 : Nat} {xs ys : Array Value} {Q : PySem.Fin → Shared → Prop} (hh : A.handled = none) (D : ZipApart z TI TO i1 i2 l1 l2) (st : ZipSt K z TI TO i1 i2 l1 l2 .none k1 k2 xs ys s.heap)
    (hend : xs[k1]? = none)
    (hE : ∀ h' e, (∀ c o, c ≠ z → c ≠ i1 → s.heap.get? c = some o → h'.get? c = some o) → (∃ o, h'.get? e = some o ∧ o.cls = .type "StopIteration") → E (.ref e) { s with heap := h' }) :
    wpAny (model prog w) A (Builtin.«zip.__next__» ⟨[.ref z], []⟩) Q E s := by
  obtain ⟨hz, hTI, ⟨a, b, hTO⟩, h1, h2, hl1, hl2⟩ := st
  show wpAny _ _ (field (.ref z) 2 >>= _) _ _ _
  refine wpAny_bind (wpAny_field hz rfl (x := .bool false) rfl ?_)
  show wpAny _ _ (field (.ref z) 3 >>= _) _ _ _
  refine wpAny_bind (wpAny_field hz rfl (x := .ref TI) rfl (wpAny_bind (wpAny_seqItems hTI rfl ?_)))
  show wpAny _ _ (Builtin.SmallTypes.ownedTupleIsFree (.ref z) >>= _) _ _ _
  refine wpAny_bind ?_
  unfold Builtin.SmallTypes.ownedTupleIsFree
  refine wpAny_bind (wpAny_field hz rfl (x := .none) rfl (wpAny_pure ?_))
  simp only [if_true]
  refine wpAny_bind (wpAny_rule (wpAny_bind (wpAny_field hz rfl (x := .ref TO) rfl (wpAny_bind (wpAny_setField_rec hz (by simp) fun h₁ hz₁ hs₁ => ?_)))))
  replace hz₁ : IsZip h₁ z TI TO .ellipsis := hz₁
  refine wpAny_bind ?_
  simp only [List.zipIdx_cons, List.zipIdx_nil, List.forIn_cons, List.forIn_nil]
  have g₁ : ∀ c, c ≠ z → ∀ o, s.heap.get? c = some o → h₁.get? c = some o := fun c n o e => hs₁.extBut _ _ n e
  refine wpAny_bind (wpAny_bind (wpAny_onRaise ?_))
  show wpAny _ _ (Builtin.SmallTypes.nextOf (.ref i1) >>= _) _ _ _
  refine wpAny_bind (K.stop hh (K.itAt h1 (g₁ _ D.i1z)) (K.sqAt hl1 (g₁ _ D.l1z)) hend fun h₂ e hs₂ he => ?_)
  obtain ⟨oe, hoe, hce⟩ := he
  have z₂ : IsZip h₂ z TI TO .ellipsis := hs₂ _ _ D.i1z.symm hz₁
  have ez : e ≠ z := fun q => by subst q; rw [z₂] at hoe; cases hoe; simp at hce
  exact wpAny_setField_rec z₂ (by simp) fun h₃ _ hs₃ => hE h₃ e (fun c o n n' q => hs₃.extBut _ _ n (hs₂ _ _ n' (g₁ c n o q))) ⟨oe, hs₃.extBut _ _ ez hoe, hce⟩
end

end
section
open PySem PySem.W PyProof.Rows PySem.Spec PySem.Calls
set_option maxRecDepth 100000
set_option maxHeartbeats 8000000
abbrev tzA (l : Addr) : Obj := { cls := .type "tuple_iterator", data := .fields #[.ref l, .int 0 0] }
abbrev tzH2 (h : Heap) (l1 l2 : Addr) : Heap := (h.push (tzA l1)).push (tzA l2)
abbrev tzH4 (h : Heap) (l1 l2 : Addr) : Heap := ((tzH2 h l1 l2).push { cls := .type "tuple", data := .seq #[.ref h.objs.size, .ref (h.push (tzA l1)).objs.size] }).push { cls := .type "tuple", data := .seq #[.none, .none] }
abbrev tzH5 (h : Heap) (l1 l2 : Addr) : Heap := (tzH4 h l1 l2).push { cls := .type "zip", data := .fields #[.none, .bool false, .bool false, .ref (tzH2 h l1 l2).objs.size, .ref ((tzH2 h l1 l2).push { cls := .type "tuple", data := .seq #[.ref h.objs.size, .ref (h.push (tzA l1)).objs.size] }).objs.size] }

theorem zipT_new (l1 l2 : Addr) (xs ys : Array Value) :
    Meets (Builtin.«zip.__new__» ⟨[.type "zip", .ref l1, .ref l2], []⟩) (fun _ R s => s.heap.IsTuple l1 xs ∧ s.heap.IsTuple l2 ys ∧
      R (.ok (.ret (.ref (tzH4 s.heap l1 l2).objs.size))) { s with heap := tzH5 s.heap l1 l2 }) :=
  .of_wp fun prog w A R s h => by
    obtain ⟨hp, g, d, tk, os⟩ := s; obtain ⟨hl1, hl2, h⟩ := h
    have hsub := sub_zip
    have L1 : Heap.IsTuple (Shared.heap ⟨hp, g, d, tk, os⟩) l1 xs := hl1
    have L2 : Heap.IsTuple (Shared.heap ⟨hp.push { cls := .type "tuple_iterator", data := .fields #[.ref l1, .int 0 0] }, g, d, tk, os⟩) l2 ys := Heap.IsTuple.push hl2 _
    wp_walk using wpAny_pyIter_tuple L1, wpAny_pyIter_tuple L2
    exact ⟨_, rfl, h⟩

section
variable {prog : Program} {w : World} {A : Around} {E : Value → Shared → Prop} {s : Shared}
theorem call_zipT {l1 l2 : Addr} {xs ys : Array Value} {Q : Value → Shared → Prop} (hl1 : s.heap.IsTuple l1 xs) (hl2 : s.heap.IsTuple l2 ys)
    (h : ∀ h', ZipSt drawT (s.heap.objs.size + 4) (s.heap.objs.size + 2) (s.heap.objs.size + 3) s.heap.objs.size (s.heap.objs.size + 1) l1 l2 .none 0 0 xs ys h' →
      (∀ c o, s.heap.get? c = some o → h'.get? c = some o) → Q (.ref (s.heap.objs.size + 4)) { s with heap := h' }) :
    wpAny (model prog w) A (call (.type "zip") [.ref l1, .ref l2]) Q E s := by
  refine callType_new F.called_zip (by decide) (F.typeCall_zip_2 _ _) (F.newCall_zip_2 _ _) (fun obj => F.args_object_init_3 obj _ _) F.entry_zip_new (zipT_new l1 l2 xs ys) ⟨hl1, hl2, ?_⟩
  have up5 : ∀ c o, (tzH4 s.heap l1 l2).get? c = some o → (tzH5 s.heap l1 l2).get? c = some o := fun c o e => Heap.get?_push_of_some _ e
  have up2 : ∀ c o, (tzH2 s.heap l1 l2).get? c = some o → (tzH5 s.heap l1 l2).get? c = some o := fun c o e => up5 c o (Heap.get?_push_of_some _ (Heap.get?_push_of_some _ e))
  have up0 : ∀ c o, s.heap.get? c = some o → (tzH5 s.heap l1 l2).get? c = some o := fun c o e => up2 c o (Heap.get?_push_of_some _ (Heap.get?_push_of_some _ e))
  have z1 : (s.heap.push (tzA l1)).objs.size = s.heap.objs.size + 1 := Heap.size_push ..
  have z2 : (tzH2 s.heap l1 l2).objs.size = s.heap.objs.size + 2 := by rw [Heap.size_push, z1]
  have z3 : ((tzH2 s.heap l1 l2).push { cls := .type "tuple", data := .seq #[.ref s.heap.objs.size, .ref (s.heap.push (tzA l1)).objs.size] }).objs.size = s.heap.objs.size + 3 := by rw [Heap.size_push, z2]
  have z4 : (tzH4 s.heap l1 l2).objs.size = s.heap.objs.size + 4 := by rw [Heap.size_push, z3]
  have g5 : (tzH5 s.heap l1 l2).get? (tzH4 s.heap l1 l2).objs.size = some _ := Heap.get?_push_size _ rfl
  have g4 : (tzH5 s.heap l1 l2).get? ((tzH2 s.heap l1 l2).push { cls := .type "tuple", data := .seq #[.ref s.heap.objs.size, .ref (s.heap.push (tzA l1)).objs.size] }).objs.size = some _ := up5 _ _ (Heap.get?_push_size _ rfl)
  have g3 : (tzH5 s.heap l1 l2).get? (tzH2 s.heap l1 l2).objs.size = some _ := up5 _ _ (Heap.get?_push_of_some _ (Heap.get?_push_size _ rfl))
  have g2 : (tzH5 s.heap l1 l2).get? (s.heap.push (tzA l1)).objs.size = some _ := up2 _ _ (Heap.get?_push_size _ rfl)
  have g1 : (tzH5 s.heap l1 l2).get? s.heap.objs.size = some _ := up2 _ _ (Heap.get?_push_of_some _ (Heap.get?_push_size _ rfl))
  show _ ∧ _
  rw [z2, z3, z4] at g5
  rw [z1, z2] at g3
  rw [z3] at g4
  rw [z1] at g2
  rw [z4]
  exact ⟨⟨_, g5, rfl⟩, h _ ⟨g5, g3, ⟨_, _, g4⟩, ⟨_, g1, rfl, rfl⟩, ⟨_, g2, rfl, rfl⟩, hl1.at fun o e => up0 _ o e, hl2.at fun o e => up0 _ o e⟩ up0⟩

theorem zipT_walk (hh : A.handled = none) (z TI TO i1 i2 l1 l2 : Addr) (D : ZipApart z TI TO i1 i2 l1 l2) (xs ys : Array Value) (hsz : xs.size = ys.size) :
    WalksU prog w A z [z, TI, TO, i1, i2, l1, l2] [z, TO, i1, i2] xs.size
      (fun i vals => ∃ x y, xs[i]? = some x ∧ ys[i]? = some y ∧ vals = #[x, y])
      (fun i h => ZipSt drawT z TI TO i1 i2 l1 l2 .none i i xs ys h)
      (fun i T h => ZipSt drawT z TI TO i1 i2 l1 l2 (rawInt T) (i + 1) (i + 1) xs ys h ∧ T ≠ z ∧ T ≠ TO ∧ T ≠ i1 ∧ T ≠ i2) where
  sub := fun c hc => by simp at hc ⊢; rcases hc with rfl | rfl | rfl | rfl <;> simp
  frame := fun i h h' st hk => by
    obtain ⟨hz, hTI, ⟨a, b, hTO⟩, h1, h2, hl1, hl2⟩ := st
    exact ⟨hk z (by simp) _ hz, hk TI (by simp) _ hTI, ⟨a, b, hk TO (by simp) _ hTO⟩, drawT.itAt h1 (hk i1 (by simp)), drawT.itAt h2 (hk i2 (by simp)), drawT.sqAt hl1 (hk l1 (by simp)), drawT.sqAt hl2 (hk l2 (by simp))⟩
  item := fun i s Q E hi st hQ => by
    have hiy : i < ys.size := hsz ▸ hi
    have hz := st.1
    obtain ⟨_, _, ⟨a, b, hTO⟩, h1, h2, _⟩ := id st
    have hT : s.TypeIs (.ref z) "zip" := ⟨_, hz, rfl⟩
    have lt : ∀ {c o}, s.heap.get? c = some o → s.heap.objs.size ≠ c := fun e => Nat.ne_of_gt (Heap.lt_size e)
    unfold pyNext
    refine wpAny_bind (wpAny_attempt (wpAny_callSpecial?_slot (name := Str.ofString "__next__") hT F.slot_zip_next
      (wpAny_call_entry F.slot_zip_next hT F.entry_zip_next (zipK_next D st (Array.getElem?_eq_getElem hi) (Array.getElem?_eq_getElem hiy) fun h' st' hp hk => wpAny_pure ?_) (F.args_zip_next_1 _))))
    exact hQ s.heap.objs.size #[xs[i], ys[i]] h' s.toks ⟨_, _, Array.getElem?_eq_getElem hi, Array.getElem?_eq_getElem hiy, rfl⟩ ⟨_, hp, rfl, _, rfl⟩
      ⟨st', lt hz, lt hTO, (let ⟨_, e⟩ := drawT.itHas h1; lt e), (let ⟨_, e⟩ := drawT.itHas h2; lt e)⟩
      fun c o hc e => hk c o (fun x => hc (by simp [x])) (fun x => hc (by simp [x])) (fun x => hc (by simp [x])) (fun x => hc (by simp [x])) e
  go := fun elts k pos i T s Q E hm hQ => by
    obtain ⟨⟨hz, hTI, ⟨a, b, hTO⟩, h1, h2, hl1, hl2⟩, _⟩ := hm
    exact wpAny_letOwnedTupleGo_zip hz fun h' hz' hs' => hQ h' ⟨hz', hs'.extBut _ _ D.TIz hTI, ⟨a, b, hs'.extBut _ _ D.TOz hTO⟩, drawT.itAt h1 fun o e => hs'.extBut _ _ D.i1z e, drawT.itAt h2 fun o e => hs'.extBut _ _ D.i2z e,
      drawT.sqAt hl1 fun o e => hs'.extBut _ _ D.l1z e, drawT.sqAt hl2 fun o e => hs'.extBut _ _ D.l2z e⟩ fun c o hc e => hs'.extBut _ _ (fun x => hc (by simp [x])) e
  apart := fun i T h hm hT => by
    obtain ⟨_, t1, t2, t3, t4⟩ := hm
    simp at hT
    rcases hT with h | h | h | h <;> first | exact t1 h | exact t2 h | exact t3 h | exact t4 h
  done := fun s Q E st hQ => by
    have hT : s.TypeIs (.ref z) "zip" := ⟨_, st.1, rfl⟩
    unfold pyNext
    refine wpAny_bind (wpAny_attempt (wpAny_callSpecial?_slot (name := Str.ofString "__next__") hT F.slot_zip_next
      (wpAny_call_entry F.slot_zip_next hT F.entry_zip_next (zipK_stop hh D st (Array.getElem?_eq_none (Nat.le_refl _)) fun h' e hk he => ?_) (F.args_zip_next_1 _))))
    obtain ⟨o, ho, hc⟩ := he
    refine wpAny_bind (wpAny_isInstance (T := "StopIteration") (b := true) ⟨o, ho, hc⟩ isSubtype_stop ?_)
    exact wpAny_pure (hQ _ _ fun c o hc e => hk c o (fun x => hc (by simp [x])) (fun x => hc (by simp [x])) e)
  self := fun i s Q E st hQ => wpAny_pyIter_zip st.1 hQ

variable {env : Env} {h₀ : Heap} {body : List Stmt} {Q : Flow → Shared → Prop}
theorem off_zip {I b : Addr} {p : Addr × Obj} (h : p.1 < I) (hb : b = I + 4 ∨ b = I + 2 ∨ b = I + 3 ∨ b = I ∨ b = I + 1) : p.1 ≠ b := by
  have h1 : @LT.lt Nat _ p.1 I := h
  have h2 : @LE.le Nat _ I b := by rcases hb with h | h | h | h | h <;> rw [h] <;> first | exact Nat.le_refl _ | exact Nat.le_add_right _ _
  exact Nat.ne_of_lt (Nat.lt_of_lt_of_le h1 h2)
theorem zip_lexT {le : Bool} {elts : List Expr} {k : Nat} {pos : Pos} {l1 l2 : Addr} {vs us : List Value} {xs ys : List Int} {m₀ : Str → Option Value} {news : List (Addr × Obj)}
    (hh : A.handled = none) (F : Fr h₀ env.locals s.heap m₀) (N : News h₀ env.locals s.heap news) (hm1 : (l1, tupO vs) ∈ news) (hm2 : (l2, tupO us) ∈ news) (i1 : IntsAre vs xs) (i2 : IntsAre us ys) (hl : xs.length = ys.length)
    (turn : TurnLex prog w A E h₀ env (.Tuple elts k pos) body s news)
    (ret : ∀ h' tk' m', Fr h₀ env.locals h' m' → News h₀ env.locals h' news → Q (.ret (.bool (lexL le xs ys))) { s with heap := h', toks := tk' })
    (fin : lexL le xs ys = le → ∀ h' tk' m', Fr h₀ env.locals h' m' → News h₀ env.locals h' news → Q .next { s with heap := h', toks := tk' }) :
    wpAny (model prog w) A (call (.type "zip") [.ref l1, .ref l2]) (fun xv s₁ => wpAny (model prog w) A (pyIter xv) (fun it s₂ => TurnsAt prog w A h₀ env (.Tuple elts k pos) body Q E it s₂) E s₁) E s := by
  have a1 := N _ hm1
  have a2 := N _ hm2
  have t1 : s.heap.IsTuple l1 vs.toArray := ⟨_, a1.1, rfl, _, rfl⟩
  have t2 : s.heap.IsTuple l2 us.toArray := ⟨_, a2.1, rfl, _, rfl⟩
  have lt1 : l1 < s.heap.objs.size := Heap.lt_size a1.1
  have lt2 : l2 < s.heap.objs.size := Heap.lt_size a2.1
  have hLs : env.locals < s.heap.objs.size := F.ns.lt
  have D := ktu_apart _ _ _ lt1 lt2
  have hvu : vs.toArray.size = us.toArray.size := by simp [i1.length, i2.length, hl]
  have big : ∀ p ∈ news, p.1 < s.heap.objs.size := fun p hp => Heap.lt_size (N p hp).1
  refine call_zipT t1 t2 fun h' st hk => ?_
  refine wpAny_pyIter_zip st.1 ?_
  refine ktu_core (tk0 := s.toks) (keep := [(l1, tupO vs), (l2, tupO us)]) (ws := [(s.heap.objs.size + 4, "zip"), (s.heap.objs.size + 2, "tuple"), (s.heap.objs.size + 3, "tuple"), (s.heap.objs.size, "tuple_iterator"), (s.heap.objs.size + 1, "tuple_iterator")])
    (xs := zipItems vs us) (KTurns.ofWalksU (zipT_walk hh _ _ _ _ _ _ _ D vs.toArray us.toArray hvu)) (by have := hvu; simp [zipItems_length] at this ⊢; omega) ?_ ?_ ?_ ?_ ?_ ?_ ?_ st (F.keeps hk) (N.grown hk) (And.intro hm1 (And.intro hm2 trivial)) ?_
  · rintro i v h ⟨T, vals, rfl, ⟨x, y, hx, hy, rfl⟩, hT⟩
    exact ⟨_, zipItems_get vs us i (x := x) (y := y) (by simpa using hx) (by simpa using hy), T, 0, rfl, hT⟩
  · rintro i h ⟨hz, hTI, ⟨a, b, hTO⟩, ⟨o1, ho1, hc1, _⟩, ⟨o2, ho2, hc2, _⟩, _⟩
    have e1 : ∃ o : Obj, h.get? (s.heap.objs.size + 4) = some o ∧ o.cls = .type "zip" := ⟨_, hz, rfl⟩
    have e2 : ∃ o : Obj, h.get? (s.heap.objs.size + 2) = some o ∧ o.cls = .type "tuple" := ⟨_, hTI, rfl⟩
    have e3 : ∃ o : Obj, h.get? (s.heap.objs.size + 3) = some o ∧ o.cls = .type "tuple" := ⟨_, hTO, rfl⟩
    obtain ⟨q1, g1, c1⟩ := e1
    obtain ⟨q2, g2, c2⟩ := e2
    obtain ⟨q3, g3, c3⟩ := e3
    refine ⟨[(s.heap.objs.size + 4, q1), (s.heap.objs.size + 2, q2), (s.heap.objs.size + 3, q3), (s.heap.objs.size, o1), (s.heap.objs.size + 1, o2)], ⟨⟨rfl, c1⟩, ⟨rfl, c2⟩, ⟨rfl, c3⟩, ⟨rfl, hc1⟩, ⟨rfl, hc2⟩, trivial⟩, fun p hp => ?_⟩
    simp only [List.mem_cons, List.not_mem_nil, or_false] at hp
    rcases hp with rfl | rfl | rfl | rfl | rfl
    · exact g1
    · exact g2
    · exact g3
    · exact ho1
    · exact ho2
  · intro b hb
    have hb' : b = s.heap.objs.size + 4 ∨ b = s.heap.objs.size + 2 ∨ b = s.heap.objs.size + 3 ∨ b = s.heap.objs.size ∨ b = s.heap.objs.size + 1 := by simpa using hb
    rcases hb' with rfl | rfl | rfl | rfl | rfl
    · exact ⟨by simp, ktu_new F (Nat.le_add_right _ _)⟩
    · exact ⟨by simp, ktu_new F (Nat.le_add_right _ _)⟩
    · exact ⟨by simp, ktu_new F (Nat.le_add_right _ _)⟩
    · exact ⟨by simp, ktu_new F (Nat.le_refl _)⟩
    · exact ⟨by simp, ktu_new F (Nat.le_add_right _ _)⟩
  · intro b hb
    have hb' : b = s.heap.objs.size + 4 ∨ b = s.heap.objs.size + 3 ∨ b = s.heap.objs.size ∨ b = s.heap.objs.size + 1 := by simpa using hb
    rcases hb' with rfl | rfl | rfl | rfl <;> simp
  · intro b hb
    have hb' : b = s.heap.objs.size + 4 ∨ b = s.heap.objs.size + 2 ∨ b = s.heap.objs.size + 3 ∨ b = s.heap.objs.size ∨ b = s.heap.objs.size + 1 ∨ b = l1 ∨ b = l2 := by simpa using hb
    rcases hb' with rfl | rfl | rfl | rfl | rfl | rfl | rfl
    · exact .inl (by simp)
    · exact .inl (by simp)
    · exact .inl (by simp)
    · exact .inl (by simp)
    · exact .inl (by simp)
    · exact .inr ⟨_, by simp; exact .inl rfl⟩
    · exact .inr ⟨_, by simp; exact .inr rfl⟩
  · intro hI
    have hb' : env.locals = s.heap.objs.size + 4 ∨ env.locals = s.heap.objs.size + 2 ∨ env.locals = s.heap.objs.size + 3 ∨ env.locals = s.heap.objs.size ∨ env.locals = s.heap.objs.size + 1 ∨ env.locals = l1 ∨ env.locals = l2 := by simpa using hI
    rcases hb' with e | e | e | e | e | e | e
    · exact ktu_ne 4 hLs e
    · exact ktu_ne 2 hLs e
    · exact ktu_ne 3 hLs e
    · exact Nat.ne_of_lt hLs e
    · exact ktu_ne 1 hLs e
    · exact a1.2.1 e.symm
    · exact a2.2.1 e.symm
  · intro p hp hI
    have hb' : p.1 = s.heap.objs.size + 4 ∨ p.1 = s.heap.objs.size + 3 ∨ p.1 = s.heap.objs.size ∨ p.1 = s.heap.objs.size + 1 := by simpa using hI
    rcases hb' with e | e | e | e
    · exact off_zip (big p hp) (.inl rfl) e
    · exact off_zip (big p hp) (.inr (.inr (.inl rfl))) e
    · exact off_zip (big p hp) (.inr (.inr (.inr (.inl rfl)))) e
    · exact off_zip (big p hp) (.inr (.inr (.inr (.inr rfl)))) e
  · exact items_lex (keep := [(l1, tupO vs), (l2, tupO us)]) (news := news) (And.intro hm1 (And.intro hm2 trivial)) (fun p hp b hb => off_zip (big p hp) (by simpa using hb)) turn xs ys vs us m₀ i1 i2 hl ret fin
end

end
section
open PySem PySem.W PyProof.Rows PySem.Spec PySem.Calls
set_option maxRecDepth 100000
set_option maxHeartbeats 8000000

theorem lines12 : True := by
  k_with_none
  k_with "k_ne" => (first | with_reducible assumption | exact Ne.symm (by with_reducible assumption) | exact ne_gt (by with_reducible assumption) | exact ne_lt (by with_reducible assumption) | exact ne_gt (cj0 (by with_reducible assumption)) | exact ne_lt (cj0 (by with_reducible assumption)) | exact ne_gt (cj1 (by with_reducible assumption)) | exact ne_lt (cj1 (by with_reducible assumption)) | exact ne_gt (cj2 (by with_reducible assumption)) | exact ne_lt (cj2 (by with_reducible assumption)) | exact ne_gt (cj3 (by with_reducible assumption)) | exact ne_lt (cj3 (by with_reducible assumption)) | exact ne_gt (cj4 (by with_reducible assumption)) | exact ne_lt (cj4 (by with_reducible assumption)) | exact ne_gt (cj5 (by with_reducible assumption)) | exact ne_lt (cj5 (by with_reducible assumption)) | exact ne_gt (cj6 (by with_reducible assumption)) | exact ne_lt (cj6 (by with_reducible assumption)) | exact ne_gt (cj7 (by with_reducible assumption)) | exact ne_lt (cj7 (by with_reducible assumption)) | exact ne_gt (cj8 (by with_reducible assumption)) | exact ne_lt (cj8 (by with_reducible assumption)) | exact ne_gt (cj9 (by with_reducible assumption)) | exact ne_lt (cj9 (by with_reducible assumption)) | exact ne_gt (cj10 (by with_reducible assumption)) | exact ne_lt (cj10 (by with_reducible assumption)) | exact ne_gt (cj11 (by with_reducible assumption)) | exact ne_lt (cj11 (by with_reducible assumption)) | exact ne_gt (cj12 (by with_reducible assumption)) | exact ne_lt (cj12 (by with_reducible assumption)) | exact ne_gt (cj13 (by with_reducible assumption)) | exact ne_lt (cj13 (by with_reducible assumption)) | exact ne_gt (cj14 (by with_reducible assumption)) | exact ne_lt (cj14 (by with_reducible assumption)) | exact ne_gt (cj15 (by with_reducible assumption)) | exact ne_lt (cj15 (by with_reducible assumption)) | exact ne_gt (cj16 (by with_reducible assumption)) | exact ne_lt (cj16 (by with_reducible assumption)) | exact ne_gt (cj17 (by with_reducible assumption)) | exact ne_lt (cj17 (by with_reducible assumption)) | exact ne_gt (cj18 (by with_reducible assumption)) | exact ne_lt (cj18 (by with_reducible assumption)) | exact ne_gt (cj19 (by with_reducible assumption)) | exact ne_lt (cj19 (by with_reducible assumption)) | exact ne_gt (cj20 (by with_reducible assumption)) | exact ne_lt (cj20 (by with_reducible assumption)) | exact ne_gt (cj21 (by with_reducible assumption)) | exact ne_lt (cj21 (by with_reducible assumption)) | exact ne_gt (cj22 (by with_reducible assumption)) | exact ne_lt (cj22 (by with_reducible assumption)) | exact ne_gt (cj23 (by with_reducible assumption)) | exact ne_lt (cj23 (by with_reducible assumption)) | exact ne_gt (cj24 (by with_reducible assumption)) | exact ne_lt (cj24 (by with_reducible assumption)) | exact ne_gt (cj25 (by with_reducible assumption)) | exact ne_lt (cj25 (by with_reducible assumption)) | exact ne_gt (ck1 (by with_reducible assumption)) | exact ne_lt (ck1 (by with_reducible assumption)) | exact ne_gt (ck2 (by with_reducible assumption)) | exact ne_lt (ck2 (by with_reducible assumption)) | exact ne_gt (ck3 (by with_reducible assumption)) | exact ne_lt (ck3 (by with_reducible assumption)) | exact ne_gt (ck4 (by with_reducible assumption)) | exact ne_lt (ck4 (by with_reducible assumption)) | exact ne_gt (ck5 (by with_reducible assumption)) | exact ne_lt (ck5 (by with_reducible assumption)) | exact ne_gt (ck6 (by with_reducible assumption)) | exact ne_lt (ck6 (by with_reducible assumption)) | exact ne_gt (ck7 (by with_reducible assumption)) | exact ne_lt (ck7 (by with_reducible assumption)) | exact ne_gt (ck8 (by with_reducible assumption)) | exact ne_lt (ck8 (by with_reducible assumption)) | exact ne_gt (ck9 (by with_reducible assumption)) | exact ne_lt (ck9 (by with_reducible assumption)) | exact ne_gt (ck10 (by with_reducible assumption)) | exact ne_lt (ck10 (by with_reducible assumption)) | exact ne_gt (ck11 (by with_reducible assumption)) | exact ne_lt (ck11 (by with_reducible assumption)) | exact ne_gt (ck12 (by with_reducible assumption)) | exact ne_lt (ck12 (by with_reducible assumption)) | exact ne_gt (ck13 (by with_reducible assumption)) | exact ne_lt (ck13 (by with_reducible assumption)) | exact ne_gt (ck14 (by with_reducible assumption)) | exact ne_lt (ck14 (by with_reducible assumption)) | exact ne_gt (ck15 (by with_reducible assumption)) | exact ne_lt (ck15 (by with_reducible assumption)) | exact ne_gt (ck16 (by with_reducible assumption)) | exact ne_lt (ck16 (by with_reducible assumption)) | exact ne_gt (ck17 (by with_reducible assumption)) | exact ne_lt (ck17 (by with_reducible assumption)) | exact ne_gt (ck18 (by with_reducible assumption)) | exact ne_lt (ck18 (by with_reducible assumption)) | exact ne_gt (ck19 (by with_reducible assumption)) | exact ne_lt (ck19 (by with_reducible assumption)) | exact ne_gt (ck20 (by with_reducible assumption)) | exact ne_lt (ck20 (by with_reducible assumption)) | exact ne_gt (ck21 (by with_reducible assumption)) | exact ne_lt (ck21 (by with_reducible assumption)) | exact ne_gt (ck22 (by with_reducible assumption)) | exact ne_lt (ck22 (by with_reducible assumption)) | exact ne_gt (ck23 (by with_reducible assumption)) | exact ne_lt (ck23 (by with_reducible assumption)) | exact ne_gt (ck24 (by with_reducible assumption)) | exact ne_lt (ck24 (by with_reducible assumption)) | exact ne_gt (ck25 (by with_reducible assumption)) | exact ne_lt (ck25 (by with_reducible assumption)))
  k_with "ktr_room" => (first | exact room2 (by with_reducible assumption) (by decide) | exact room1 (by with_reducible assumption) (by decide) | exact room0 (by with_reducible assumption) | exact room3 (by with_reducible assumption) (by decide))
  k_with "ktr_units" => (first | exact room2 (by with_reducible assumption) (by decide) | exact room1 (by with_reducible assumption) (by decide) | exact room0 (by with_reducible assumption) | exact room3 (by with_reducible assumption) (by decide))
  k_with "ke_room" => (first | exact room2 (by with_reducible assumption) (by decide) | exact room1 (by with_reducible assumption) (by decide) | exact room0 (by with_reducible assumption) | exact room3 (by with_reducible assumption) (by decide))
  k_with "exec For Tuple Call cons nil" => (k_here; (rename Fr _ _ _ _ => lF'); (with_unfolding_all refine' For_turns lF' ?_; k_whole))
  k_with "call type:zip" => (k_here; (with_reducible show wpAny _ _ (call (Value.type _) [Value.ref _, Value.ref _]) (fun xv s₁ => wpAny _ _ (pyIter xv) (fun it s₂ => TurnsAt _ _ _ _ _ _ _ _ _ it s₂) _ s₁) _ _); (rename Fr _ _ _ _ => lF'); (rename News _ _ _ _ => lN'); k_dflt (refine' zip_lexT (le := true) (by (rfl)) lF' lN' (by (k_mem)) (by (k_mem)) (by (first | assumption | repeat constructor); (fail_if_success exfalso)) (by (first | assumption | repeat constructor); (fail_if_success exfalso)) (by (first | assumption | rfl)) ?_ ?_ ?_; ((refine turn_go ?_; intro m' x' y' tx' ty' T' h' tk' its' P' hT' F' N' hret' hnext')); rotate_left; (intro h' tk' m' F' N'); rotate_left; (intro hle' h' tk' m' F' N'); rotate_left); (try k_fold))
  k_with "call type:zip" => (k_here; (with_reducible show wpAny _ _ (call (Value.type _) [Value.ref _, Value.ref _]) (fun xv s₁ => wpAny _ _ (pyIter xv) (fun it s₂ => TurnsAt _ _ _ _ _ _ _ _ _ it s₂) _ s₁) _ _); (rename Fr _ _ _ _ => lF'); (rename News _ _ _ _ => lN'); k_dflt (refine' zip_lex (le := true) (n1 := _) (n2 := _) (by (rfl)) lF' lN' (by (k_mem)) (by (k_mem)) (by (first | assumption | repeat constructor); (fail_if_success exfalso)) (by (first | assumption | repeat constructor); (fail_if_success exfalso)) (by (first | assumption | rfl)) ?_ ?_ ?_; ((refine turn_go ?_; intro m' x' y' tx' ty' T' h' tk' its' P' hT' F' N' hret' hnext')); rotate_left; (intro h' tk' m' F' N'); rotate_left; (intro hle' h' tk' m' F' N'); rotate_left); (try k_fold))
  k_with "eval Call" => (k_here; k_dflt (refine Call_ ?_))
  exact True.intro
section
variable {w : World} {mean : ExcName → Option Value} {mg mb : Str → Option Value} {dp un : Nat} {gd : Option (List Code)} {cn : Str} {cs : Scope} {a : Addr} {ccd : Value} {cl : List (Str × Addr)} {outer : List Env} {A₀ : Around} {base h₀ : Heap} {L : Addr} {m : Str → Option Value} {s : Shared} {Q E : Value → Shared → Prop}
  {news tl : List (Addr × Obj)} {src : Addr} {x y : Int} {t u tt : Tok} {n : Nat}
  {l1 l2 : Addr} {vs us : List Value} {xs ys : List Int} {n1 n2 : Nat}
theorem atL_ok (B : Below A₀ base outer h₀) (F : Fr h₀ L s.heap m) (X : (hd.heap_39 w.params).In h₀) (N : News h₀ L s.heap news) (T : Top MineHead.VW (looseW MineHead.VW []) mean mg mb h₀) (hk : cs.kind = .function) (m1 : (l1, listOf vs.toArray n1) ∈ news) (m2 : (l2, listOf us.toArray n2) ∈ news) (i1 : IntsAre vs xs) (i2 : IntsAre us ys) (hl : xs.length = ys.length) (hdp : dp + 1 < recursionLimit) (hu : un + 200 < cLine)
    (ret : ∀ (t : Tok) (h' : Heap) (tk' : Nat), Fr h₀ L h' m → News h₀ L h' news → Q (.bool (lexL true xs ys)) { s with heap := h', toks := tk' }) :
    wpAny (model PySem.Challenge.rw_pb0537_01.row.prog w) (ktrTop dp un gd cn cs L a ccd cl outer) (call (.ref 269) [.ref l1, .ref l2]) Q E s := by
  revert X; k_fill; intro X
  refine wpAny_call ?_
  k_dflt cell_enter
  k_steps
  all_goals first
    | (refine cb_retB (x := lexL true xs ys) ret ?_ (by assumption) (cb_drop (by assumption) (by kqd_sub)); first | rfl | exact Eq.symm (by assumption))
    | (rename (_ ≠ _ → _) => hr; exact hr (by assumption) _ _ _ (by assumption) (by assumption))
    | (rename (_ = _ → _) => hr; exact hr (by assumption) _ _ _ (by assumption) (by assumption))
theorem atT_ok (B : Below A₀ base outer h₀) (F : Fr h₀ L s.heap m) (X : (hd.heap_39 w.params).In h₀) (N : News h₀ L s.heap news) (T : Top MineHead.VW (looseW MineHead.VW []) mean mg mb h₀) (hk : cs.kind = .function) (m1 : (l1, tupO vs) ∈ news) (m2 : (l2, tupO us) ∈ news) (i1 : IntsAre vs xs) (i2 : IntsAre us ys) (hl : xs.length = ys.length) (hdp : dp + 1 < recursionLimit) (hu : un + 200 < cLine)
    (ret : ∀ (t : Tok) (h' : Heap) (tk' : Nat), Fr h₀ L h' m → News h₀ L h' news → Q (.bool (lexL true xs ys)) { s with heap := h', toks := tk' }) :
    wpAny (model PySem.Challenge.rw_pb0537_01.row.prog w) (ktrTop dp un gd cn cs L a ccd cl outer) (call (.ref 269) [.ref l1, .ref l2]) Q E s := by
  revert X; k_fill; intro X
  refine wpAny_call ?_
  k_dflt cell_enter
  k_steps
  all_goals first
    | (refine cb_retB (x := lexL true xs ys) ret ?_ (by assumption) (cb_drop (by assumption) (by kqd_sub)); first | rfl | exact Eq.symm (by assumption))
    | (rename (_ ≠ _ → _) => hr; exact hr (by assumption) _ _ _ (by assumption) (by assumption))
    | (rename (_ = _ → _) => hr; exact hr (by assumption) _ _ _ (by assumption) (by assumption))
end

end
section
open PySem PySem.W PyProof.Rows PySem.Spec PySem.Calls
set_option maxRecDepth 100000
set_option maxHeartbeats 8000000

section
variable {w : World} {mean : ExcName → Option Value} {mg mb : Str → Option Value} {dp un : Nat} {gd : Option (List Code)} {cn : Str} {cs : Scope} {a : Addr} {ccd : Value} {cl : List (Str × Addr)} {outer : List Env} {A₀ : Around} {base h₀ : Heap} {L : Addr} {m : Str → Option Value} {s : Shared} {Q E : Value → Shared → Prop}
  {news tl : List (Addr × Obj)} {src : Addr} {x y : Int} {t u tt : Tok} {n : Nat}
theorem any_nil : ∀ v ∈ ([] : List Value), ∃ k t, v = .int k t ∧ True := fun _ h => nomatch h
theorem any_cons {k : Int} {t : Tok} {vs : List Value} (h : ∀ v ∈ vs, ∃ k t, v = .int k t ∧ True) : ∀ v ∈ (.int k t :: vs), ∃ k t, v = Value.int k t ∧ True := by
  intro v hv
  rcases List.mem_cons.mp hv with rfl | hv
  · exact ⟨_, _, rfl, trivial⟩
  · exact h v hv
/-- all are pairs of ints that the ledger bears -/
def Pairs (src : Addr) (news : List (Addr × Obj)) (vs : List Value) : Prop := ∀ v ∈ vs, ∃ (b : Addr) (p q : Int) (tp tq : Tok), v = .ref b ∧ b ≠ src ∧ (b, tupO [.int p tp, .int q tq]) ∈ news
theorem pairs_nil : Pairs src news [] := fun _ h => nomatch h
theorem pairs_cons {b : Addr} {p q : Int} {tp tq : Tok} {vs : List Value} (hm : (b, tupO [.int p tp, .int q tq]) ∈ news) (hn : b ≠ src) (h : Pairs src news vs) : Pairs src news (.ref b :: vs) := by
  intro v hv
  rcases List.mem_cons.mp hv with rfl | hv
  · exact ⟨b, p, q, tp, tq, rfl, hn, hm⟩
  · exact h v hv
theorem one_pair {g : Obj → List (Addr × Obj)} {l : Addr} {vs : List Value} {k : Nat}
    (B : Below A₀ base outer h₀) (F : Fr h₀ L s.heap m) (X : (hd.heap_39 w.params).In h₀) (N : News h₀ L s.heap news) (T : Top MineHead.VW (looseW MineHead.VW []) mean mg mb h₀) (hk : cs.kind = .function)
    (U : UpdF src (srcO x y t u n) news g) (hx : 0 ≤ x) (hy : 0 ≤ y) (hy2 : y < 2147483647) (hl : (l, listOf vs.toArray k) ∈ news) (hne : l ≠ src) (hl1 : 1 ≤ vs.length) (hl2 : vs.length ≤ 3000)
    (hvs : Pairs src news vs)
    (hdp : dp + 2 < recursionLimit) (hu : un + 210 < cLine)
    (ret : ∀ (b : Addr) (p q : Int) (tp tq : Tok) (x' y' : Int) (t' u' : Tok) (n' : Nat) (h' : Heap) (tk' : Nat), b ≠ src → .ref b ∈ vs → 0 ≤ x' → 0 ≤ y' → y' < 2147483647 → Fr h₀ L h' m → News h₀ L h' ((b, tupO [.int p tp, .int q tq]) :: g (srcO x' y' t' u' n')) →
      Q (.ref b) { s with heap := h', toks := tk' }) :
    wpAny (model PySem.Challenge.rw_pb0537_01.row.prog w) (ktrTop dp un gd cn cs L a ccd cl outer) (call (.ref 215) [.ref src, .ref l]) Q E s :=
  one_ok B F X N T hk U hx hy hy2 hl hne hl1 hl2 hdp hu fun v x' y' t' u' n' h' tk' i1 i2 i3 hv F' N' => by
    obtain ⟨b, p, q, tp, tq, rfl, hn, hm⟩ := hvs v hv
    refine ret b p q tp tq x' y' t' u' n' h' tk' hn hv i1 i2 i3 F' fun r hr => ?_
    rcases List.mem_cons.mp hr with rfl | hr
    · obtain ⟨tl, _, e1, e2⟩ := updF_perm U
      exact N' _ ((e2 _ _).mpr (.tail _ (mem_tl e1 hm hn)))
    · exact N' r hr
end

end
section
open PySem PySem.W PyProof.Rows PySem.Spec PySem.Calls
set_option maxRecDepth 100000
set_option maxHeartbeats 8000000
section
variable {prog : Program} {w : World} {M : Model} {A : Around} {E : Value → Shared → Prop} {s : Shared} {h₀ : Heap} {L : Addr} {m : Str → Option Value} {news : List (Addr × Obj)}
theorem applied_upto3 {sl : Addr} {u : Tok} {Q : Int × Int × Nat → Shared → Prop} (hs : s.heap.IsSliceOf sl .none (.int 3 u) .none) (h : Q (0, 1, 3) s) :
    wpAny (model prog w) A (Builtin.Slice.sliceApplied (.ref sl) (pure (4 : Int))) Q E s := by
  obtain ⟨os, hos, hcs, hds⟩ := id hs
  unfold Builtin.Slice.sliceApplied Builtin.Slice.sliceFields
  refine wpAny_bind (wpAny_bind (wpAny_field hos hds (x := .none) rfl (wpAny_bind (wpAny_field hos hds (x := .int 3 u) rfl (wpAny_bind (wpAny_field hos hds (x := .none) rfl (wpAny_pure ?_)))))))
  refine wpAny_bind (slicePart_none ?_)
  show wpAny _ _ (if ((1 : Int) == 0) = true then _ else _) _ _ s
  rw [if_neg (by decide)]
  refine wpAny_bind (slicePart_none (wpAny_bind (slicePart_int (wpAny_bind (wpAny_pure ?_)))))
  exact wpAny_pure h
theorem slice_upto3 {value slice : PySem.Expr} {t : Addr} {a b c d : Value} {u : Tok} {Q : Value → Shared → Prop} (F : Fr h₀ L s.heap m) (N : News h₀ L s.heap news) (ht : (t, tupO [a, b, c, d]) ∈ news)
    (h : ∀ D h', Fr h₀ L h' m → News h₀ L h' ((D, tupO [a, b, c]) :: news) → (∀ p ∈ news, p.1 < D) → Q (.ref D) { s with heap := h' })
    (hs : subscripted slice false (.ref t) (.ref s.heap.objs.size) = operate [.ref s.heap.objs.size, .ref t] (getItem (.ref t) (.ref s.heap.objs.size)) := by with_unfolding_all rfl)
    (hg : ∀ r, letTemporaryGo value (.ref t) r = pure () := by intro _; with_unfolding_all rfl) :
    wpAny (model prog w) A (subscriptTail value slice (.ref t) (.ref s.heap.objs.size)) Q E { s with heap := s.heap.push { cls := .type "slice", data := .fields #[.none, .int 3 u, .none] } } := by
  have ht0 : IsTup s.heap t #[a, b, c, d] := News.isTup N ht
  have ht' : IsTup (s.heap.push { cls := .type "slice", data := .fields #[.none, .int 3 u, .none] }) t #[a, b, c, d] := ht0.keeps fun _ _ e => Heap.get?_push_of_some _ e
  have hsl : (s.heap.push { cls := .type "slice", data := .fields #[.none, .int 3 u, .none] }).IsSliceOf s.heap.objs.size .none (.int 3 u) .none := Heap.IsSliceOf.new ..
  obtain ⟨os, hos, hcs, hds⟩ := id hsl
  have hTs : (⟨s.heap.push { cls := .type "slice", data := .fields #[.none, .int 3 u, .none] }, s.gens, s.drawn, s.toks, s.os⟩ : Shared).TypeIs (.ref s.heap.objs.size) "slice" := ⟨os, hos, hcs⟩
  refine subscriptTail_ops (s := { s with heap := s.heap.push { cls := .type "slice", data := .fields #[.none, .int 3 u, .none] } }) ht'.typeIs slot_tuple_getitem.lookup ?_ hs hg
  unfold getItem
  refine wpAny_holding ?_
  refine wpAny_bind (wpAny_sequenceKey ht'.typeIs (by decide) ?_)
  refine wpAny_bind (wpAny_callSpecial?_slot (name := Str.ofString "__getitem__") ht'.typeIs slot_tuple_getitem
    (wpAny_call_entry slot_tuple_getitem ht'.typeIs entry_tuple_getitem ?_ (args_tuple_getitem _ _)))
  show wpAny _ _ (Builtin.Tuple.tupleItemsOf (.ref t) >>= _) _ _ _
  refine wpAny_bind (tupleItemsOf_ ht' ?_)
  refine wpAny_bind (wpAny_typeOf hTs ?_)
  rw [if_pos (by decide)]
  refine wpAny_bind (applied_upto3 hsl ?_)
  have N1 := News.push (F.push { cls := .type "slice", data := .fields #[.none, .int 3 u, .none] }) (N.grown fun _ _ e => Heap.get?_push_of_some _ e) (tupO [a, b, c])
  have q := h _ _ ((F.push _).push _) N1 fun p hp => by rw [Heap.size_push]; exact Nat.lt_succ_of_lt (Heap.lt_size (N p hp).1)
  show wpAny _ _ (Builtin.Tuple.tupleExact [a, b, c].toArray >>= fun r => ret r) _ _ _
  exact wpAny_bind (m := Builtin.Tuple.tupleExact _) (wpAny_newObj_type (wpAny_pure ⟨_, rfl, wpAny_pure q⟩) (by show [a, b, c].toArray.size ≤ sizeLine; rw [sizeLine_eq]; exact Nat.le_of_ble_eq_true rfl))
theorem slice_from1 {value slice : PySem.Expr} {t : Addr} {a b c d : Value} {u : Tok} {Q : Value → Shared → Prop} (F : Fr h₀ L s.heap m) (N : News h₀ L s.heap news) (ht : (t, tupO [a, b, c, d]) ∈ news)
    (h : ∀ D h', Fr h₀ L h' m → News h₀ L h' ((D, tupO [b, c, d]) :: news) → (∀ p ∈ news, p.1 < D) → Q (.ref D) { s with heap := h' })
    (hs : subscripted slice false (.ref t) (.ref s.heap.objs.size) = operate [.ref s.heap.objs.size, .ref t] (getItem (.ref t) (.ref s.heap.objs.size)) := by with_unfolding_all rfl)
    (hg : ∀ r, letTemporaryGo value (.ref t) r = pure () := by intro _; with_unfolding_all rfl) :
    wpAny (model prog w) A (subscriptTail value slice (.ref t) (.ref s.heap.objs.size)) Q E { s with heap := s.heap.push { cls := .type "slice", data := .fields #[.int 1 u, .none, .none] } } :=
  slice_tuple_from (a := 1) F N (items := #[a, b, c, d]) (News.isTup N ht) (Nat.le_refl 1) (show 1 ≤ 4 by decide) (fun h' F' N' => h _ h' F' N' fun p hp => Nat.lt_succ_of_lt (Heap.lt_size (N p hp).1)) hs hg (by show 4 ≤ sizeLine; rw [sizeLine_eq]; exact Nat.le_of_ble_eq_true rfl)
end

end
section
open PySem PySem.W PyProof.Rows PySem.Spec PySem.Calls
set_option maxRecDepth 100000
set_option maxHeartbeats 8000000
end
local macro_rules | `(tactic| k_room) => `(tactic| ktr_room)
section
open PySem PySem.W PyProof.Rows PySem.Spec PySem.Calls

theorem lines13 : True := by
  k_with_none
  k_with "k_ne" => (first | with_reducible assumption | exact Ne.symm (by with_reducible assumption) | exact ne_gt (by with_reducible assumption) | exact ne_lt (by with_reducible assumption) | exact ne_gt (cj0 (by with_reducible assumption)) | exact ne_lt (cj0 (by with_reducible assumption)) | exact ne_gt (cj1 (by with_reducible assumption)) | exact ne_lt (cj1 (by with_reducible assumption)) | exact ne_gt (cj2 (by with_reducible assumption)) | exact ne_lt (cj2 (by with_reducible assumption)) | exact ne_gt (cj3 (by with_reducible assumption)) | exact ne_lt (cj3 (by with_reducible assumption)) | exact ne_gt (cj4 (by with_reducible assumption)) | exact ne_lt (cj4 (by with_reducible assumption)) | exact ne_gt (cj5 (by with_reducible assumption)) | exact ne_lt (cj5 (by with_reducible assumption)) | exact ne_gt (cj6 (by with_reducible assumption)) | exact ne_lt (cj6 (by with_reducible assumption)) | exact ne_gt (cj7 (by with_reducible assumption)) | exact ne_lt (cj7 (by with_reducible assumption)) | exact ne_gt (cj8 (by with_reducible assumption)) | exact ne_lt (cj8 (by with_reducible assumption)) | exact ne_gt (cj9 (by with_reducible assumption)) | exact ne_lt (cj9 (by with_reducible assumption)) | exact ne_gt (cj10 (by with_reducible assumption)) | exact ne_lt (cj10 (by with_reducible assumption)) | exact ne_gt (cj11 (by with_reducible assumption)) | exact ne_lt (cj11 (by with_reducible assumption)) | exact ne_gt (cj12 (by with_reducible assumption)) | exact ne_lt (cj12 (by with_reducible assumption)) | exact ne_gt (cj13 (by with_reducible assumption)) | exact ne_lt (cj13 (by with_reducible assumption)) | exact ne_gt (cj14 (by with_reducible assumption)) | exact ne_lt (cj14 (by with_reducible assumption)) | exact ne_gt (cj15 (by with_reducible assumption)) | exact ne_lt (cj15 (by with_reducible assumption)) | exact ne_gt (cj16 (by with_reducible assumption)) | exact ne_lt (cj16 (by with_reducible assumption)) | exact ne_gt (cj17 (by with_reducible assumption)) | exact ne_lt (cj17 (by with_reducible assumption)) | exact ne_gt (cj18 (by with_reducible assumption)) | exact ne_lt (cj18 (by with_reducible assumption)) | exact ne_gt (cj19 (by with_reducible assumption)) | exact ne_lt (cj19 (by with_reducible assumption)) | exact ne_gt (cj20 (by with_reducible assumption)) | exact ne_lt (cj20 (by with_reducible assumption)) | exact ne_gt (cj21 (by with_reducible assumption)) | exact ne_lt (cj21 (by with_reducible assumption)) | exact ne_gt (cj22 (by with_reducible assumption)) | exact ne_lt (cj22 (by with_reducible assumption)) | exact ne_gt (cj23 (by with_reducible assumption)) | exact ne_lt (cj23 (by with_reducible assumption)) | exact ne_gt (cj24 (by with_reducible assumption)) | exact ne_lt (cj24 (by with_reducible assumption)) | exact ne_gt (cj25 (by with_reducible assumption)) | exact ne_lt (cj25 (by with_reducible assumption)) | exact ne_gt (ck1 (by with_reducible assumption)) | exact ne_lt (ck1 (by with_reducible assumption)) | exact ne_gt (ck2 (by with_reducible assumption)) | exact ne_lt (ck2 (by with_reducible assumption)) | exact ne_gt (ck3 (by with_reducible assumption)) | exact ne_lt (ck3 (by with_reducible assumption)) | exact ne_gt (ck4 (by with_reducible assumption)) | exact ne_lt (ck4 (by with_reducible assumption)) | exact ne_gt (ck5 (by with_reducible assumption)) | exact ne_lt (ck5 (by with_reducible assumption)) | exact ne_gt (ck6 (by with_reducible assumption)) | exact ne_lt (ck6 (by with_reducible assumption)) | exact ne_gt (ck7 (by with_reducible assumption)) | exact ne_lt (ck7 (by with_reducible assumption)) | exact ne_gt (ck8 (by with_reducible assumption)) | exact ne_lt (ck8 (by with_reducible assumption)) | exact ne_gt (ck9 (by with_reducible assumption)) | exact ne_lt (ck9 (by with_reducible assumption)) | exact ne_gt (ck10 (by with_reducible assumption)) | exact ne_lt (ck10 (by with_reducible assumption)) | exact ne_gt (ck11 (by with_reducible assumption)) | exact ne_lt (ck11 (by with_reducible assumption)) | exact ne_gt (ck12 (by with_reducible assumption)) | exact ne_lt (ck12 (by with_reducible assumption)) | exact ne_gt (ck13 (by with_reducible assumption)) | exact ne_lt (ck13 (by with_reducible assumption)) | exact ne_gt (ck14 (by with_reducible assumption)) | exact ne_lt (ck14 (by with_reducible assumption)) | exact ne_gt (ck15 (by with_reducible assumption)) | exact ne_lt (ck15 (by with_reducible assumption)) | exact ne_gt (ck16 (by with_reducible assumption)) | exact ne_lt (ck16 (by with_reducible assumption)) | exact ne_gt (ck17 (by with_reducible assumption)) | exact ne_lt (ck17 (by with_reducible assumption)) | exact ne_gt (ck18 (by with_reducible assumption)) | exact ne_lt (ck18 (by with_reducible assumption)) | exact ne_gt (ck19 (by with_reducible assumption)) | exact ne_lt (ck19 (by with_reducible assumption)) | exact ne_gt (ck20 (by with_reducible assumption)) | exact ne_lt (ck20 (by with_reducible assumption)) | exact ne_gt (ck21 (by with_reducible assumption)) | exact ne_lt (ck21 (by with_reducible assumption)) | exact ne_gt (ck22 (by with_reducible assumption)) | exact ne_lt (ck22 (by with_reducible assumption)) | exact ne_gt (ck23 (by with_reducible assumption)) | exact ne_lt (ck23 (by with_reducible assumption)) | exact ne_gt (ck24 (by with_reducible assumption)) | exact ne_lt (ck24 (by with_reducible assumption)) | exact ne_gt (ck25 (by with_reducible assumption)) | exact ne_lt (ck25 (by with_reducible assumption)))
  k_with "ktr_room" => (first | exact room2 (by with_reducible assumption) (by decide) | exact room1 (by with_reducible assumption) (by decide) | exact room0 (by with_reducible assumption) | exact room3 (by with_reducible assumption) (by decide))
  k_with "ktr_units" => (first | exact room2 (by with_reducible assumption) (by decide) | exact room1 (by with_reducible assumption) (by decide) | exact room0 (by with_reducible assumption) | exact room3 (by with_reducible assumption) (by decide))
  k_with "ke_room" => (first | exact room2 (by with_reducible assumption) (by decide) | exact room1 (by with_reducible assumption) (by decide) | exact room0 (by with_reducible assumption) | exact room3 (by with_reducible assumption) (by decide))
  k_with "compareOp Lt ref ref" => (k_here; (with_reducible show wpAny _ _ (compareOp CmpOp.Lt (Value.ref _) (Value.ref _)) _ _ _); k_dflt (refine lt_dataT (by ked_read) (by ked_read) (by ked_shaped) (by ked_shaped) (by ke_room) (by rfl) ?_); (try simp only [lexT_vec, lexT_head, lexT_tail, lexT_pair]))
  k_with "compareOp LtE ref ref" => (k_here; (with_reducible show wpAny _ _ (compareOp CmpOp.LtE (Value.ref _) (Value.ref _)) _ _ _); k_dflt (refine le_dataT (by ked_read) (by ked_read) (by ked_shaped) (by ked_shaped) (by ke_room) (by rfl) ?_); (try simp only [lexT_vec, lexT_head, lexT_tail, lexT_pair]))
  k_with "compareOp Eq ref ref" => (k_here; (with_reducible show wpAny _ _ (compareOp CmpOp.Eq (Value.ref _) (Value.ref _)) _ _ _); k_dflt (refine eq_dataH (by ked_read) (by ked_read) (by ked_shaped) (by ked_shaped) (by ke_room) ?_); (try simp only [eqv_vec, eqv_head, eqv_pair]))
  k_with "compareOp NotEq ref ref" => (k_here; (with_reducible show wpAny _ _ (compareOp CmpOp.NotEq (Value.ref _) (Value.ref _)) _ _ _); k_dflt (refine ne_dataH (by ked_read) (by ked_read) (by ked_shaped) (by ked_shaped) (by ke_room) ?_); (try simp only [eqv_vec, eqv_head, eqv_pair]))
  k_with "eval Call" => (k_here; k_dflt (refine Call_ ?_))
  k_with "subscriptTail" => (k_here; (with_reducible show wpAny _ _ (subscriptTail _ (PySem.Expr.Slice none (some _) none _) (Value.ref _) (Value.ref _)) _ _ _); k_dflt (refine' slice_upto3 (by (k_asm)) (by (k_asm)) (by (k_mem)) ?_ (by (with_unfolding_all rfl)) (by ((intro _; with_unfolding_all rfl))); k_whole); intro D' h' F' N' l1; (try k_lt l1); (try k_sweep))
  k_with "subscriptTail" => (k_here; (with_reducible show wpAny _ _ (subscriptTail _ (PySem.Expr.Slice (some _) none none _) (Value.ref _) (Value.ref _)) _ _ _); k_dflt (refine' slice_from1 (by (k_asm)) (by (k_asm)) (by (k_mem)) ?_ (by (with_unfolding_all rfl)) (by ((intro _; with_unfolding_all rfl))); k_whole); intro D' h' F' N' l1; (try k_lt l1); (try k_sweep))
  exact True.intro
abbrev portEs (w : World) (k0 k1 k2 k3 k4 k5 k6 k7 k8 k9 : Tok) (num : Int) (tn : Tok) (pid : Addr) (c : Int) (tc : Tok) (vb : Addr) (st : Str) (ts : Tok) : List DictEntry :=
  [⟨PyData.keyHash w.params "number", .str "number" k0, .int num tn⟩, ⟨PyData.keyHash w.params "port_id", .str "port_id" k1, .ref pid⟩, ⟨PyData.keyHash w.params "cost", .str "cost" k2, .int c tc⟩, ⟨PyData.keyHash w.params "state", .str "state" k3, .str st ts⟩,
   ⟨PyData.keyHash w.params "vector", .str "vector" k4, .ref vb⟩, ⟨PyData.keyHash w.params "owes_ack", .str "owes_ack" k5, .bool false⟩, ⟨PyData.keyHash w.params "is_pending", .str "is_pending" k6, .bool false⟩, ⟨PyData.keyHash w.params "age", .str "age" k7, .none⟩,
   ⟨PyData.keyHash w.params "delay", .str "delay" k8, .none⟩, ⟨PyData.keyHash w.params "hold", .str "hold" k9, .none⟩]
abbrev Vec.head (d : Vec) : List Int := [d.r0, d.r1, d.c, d.b0, d.b1]
def superB (d e : Vec) (q0 q1 : Int) : Bool := if d.head = e.head then (!decide ([d.b0, d.b1] = [q0, q1]) || lexL true [d.p0, d.p1] [e.p0, e.p1]) else lexL false d.head e.head
def oursB (e : Vec) (r0 r1 c q0 q1 : Int) : Bool := decide ([e.b0, e.b1] = [q0, q1]) || (!decide ([e.r0, e.r1] = [r0, r1]) || lexL true [c, q0, q1, e.p0, e.p1] [e.c, e.b0, e.b1, e.p0, e.p1])
section
variable {w : World} {mean : ExcName → Option Value} {mg mb : Str → Option Value} {dp un : Nat} {gd : Option (List Code)} {cn : Str} {cs : Scope} {a : Addr} {ccd : Value} {cl : List (Str × Addr)} {outer : List Env} {A₀ : Around} {base h₀ : Heap} {L : Addr} {m : Str → Option Value} {s : Shared} {Q E : Value → Shared → Prop}
  {news tl : List (Addr × Obj)} {src : Addr} {x y : Int} {t u tt : Tok} {n : Nat}
  {va vb nb xp dx pid : Addr} {d e : Vec} {k0 k1 k2 k3 k4 k5 k6 k7 k8 k9 tn tc ts tq0 tq1 : Tok} {num c q0 q1 : Int} {st : Str}
theorem super_ok (B : Below A₀ base outer h₀) (F : Fr h₀ L s.heap m) (X : (hd.heap_39 w.params).In h₀) (N : News h₀ L s.heap news) (T : Top MineHead.VW (looseW MineHead.VW []) mean mg mb h₀) (hk : cs.kind = .function) (V1 : VecIn news va d) (V2 : VecIn news vb e) (hx1 : (xp, instObj 147 dx) ∈ news) (hx2 : (dx, dictOf (portEs w k0 k1 k2 k3 k4 k5 k6 k7 k8 k9 num tn pid c tc vb st ts) 10) ∈ news)
    (hb : (nb, tupO [.int q0 tq0, .int q1 tq1]) ∈ news) (hdp : dp + 2 < recursionLimit) (hu : un + 210 < cLine)
    (ret : ∀ (t : Tok) (h' : Heap) (tk' : Nat), Fr h₀ L h' m → News h₀ L h' news → Q (.bool (superB d e q0 q1)) { s with heap := h', toks := tk' }) :
    wpAny (model PySem.Challenge.rw_pb0537_01.row.prog w) (ktrTop dp un gd cn cs L a ccd cl outer) (call (.ref 165) [.ref xp, .ref va, .ref nb]) Q E s := by
  obtain ⟨r, b, p, t0, t1, t2, t3, t4, t5, t6, m1, m2, m3, m4⟩ := V1
  obtain ⟨r', b', p', t0', t1', t2', t3', t4', t5', t6', n1, n2, n3, n4⟩ := V2
  revert X; k_fill; intro X
  refine wpAny_call ?_
  k_dflt cell_enter
  k_steps
  all_goals refine cb_retB (x := superB d e q0 q1) ret ?_ (by assumption) (cb_drop (by assumption) (by kqd_sub))
  · have h1 : d.head = e.head := by assumption
    have h2 : [d.b0, d.b1] = [q0, q1] := by assumption
    rw [superB, if_pos h1, decide_eq_true h2]; rfl
  · have h1 : d.head = e.head := by assumption
    have h2 : ¬ [d.b0, d.b1] = [q0, q1] := by assumption
    rw [superB, if_pos h1, decide_eq_false h2]; rfl
  · have h1 : ¬ d.head = e.head := by assumption
    rw [superB, if_neg h1]
theorem ours_ok {ra : Addr} {r0 r1 cc : Int} {tr0 tr1 tcc tp0 tp1 : Tok} (B : Below A₀ base outer h₀) (F : Fr h₀ L s.heap m) (X : (hd.heap_39 w.params).In h₀) (N : News h₀ L s.heap news) (T : Top MineHead.VW (looseW MineHead.VW []) mean mg mb h₀) (hk : cs.kind = .function) (V2 : VecIn news vb e) (hx1 : (xp, instObj 147 dx) ∈ news) (hx2 : (dx, dictOf (portEs w k0 k1 k2 k3 k4 k5 k6 k7 k8 k9 num tn pid c tc vb st ts) 10) ∈ news)
    (hp : (pid, tupO [.int e.p0 tp0, .int e.p1 tp1]) ∈ news) (hb : (nb, tupO [.int q0 tq0, .int q1 tq1]) ∈ news) (hr : (ra, tupO [.int r0 tr0, .int r1 tr1]) ∈ news) (hdp : dp + 3 < recursionLimit) (hu : un + 220 < cLine)
    (ret : ∀ (t : Tok) (h' : Heap) (tk' : Nat), Fr h₀ L h' m → News h₀ L h' news → Q (.bool (oursB e r0 r1 cc q0 q1)) { s with heap := h', toks := tk' }) :
    wpAny (model PySem.Challenge.rw_pb0537_01.row.prog w) (ktrTop dp un gd cn cs L a ccd cl outer) (call (.ref 158) [.ref xp, .ref ra, .int cc tcc, .ref nb]) Q E s := by
  obtain ⟨r', b', p', t0', t1', t2', t3', t4', t5', t6', n1, n2, n3, n4⟩ := V2
  revert X; k_fill; intro X
  refine wpAny_call ?_
  k_dflt cell_enter
  k_steps
  all_goals refine cb_retB (x := oursB e r0 r1 cc q0 q1) ret ?_ (by assumption) (cb_drop (by assumption) (by kqd_sub))
  · have h1 : [e.b0, e.b1] = [q0, q1] := by assumption
    rw [oursB, decide_eq_true h1]; rfl
  · have h1 : ¬ [e.b0, e.b1] = [q0, q1] := by assumption
    have h2 : [e.r0, e.r1] = [r0, r1] := by assumption
    rw [oursB, decide_eq_false h1, decide_eq_true h2]; rfl
  · have h1 : ¬ [e.b0, e.b1] = [q0, q1] := by assumption
    have h2 : ¬ [e.r0, e.r1] = [r0, r1] := by assumption
    rw [oursB, decide_eq_false h1, decide_eq_false h2]; rfl
end

end
section
open PySem PySem.W PyProof.Rows PySem.Spec PySem.Calls
set_option maxRecDepth 100000
set_option maxHeartbeats 8000000

theorem pool_x {v : Int} {c : Prop} [Decidable c] : 0 ≤ (if -1 - v > v then -1 - v else v) * (if c then 1 else 0) := by
  refine Int.mul_nonneg ?_ ?_
  · split <;> omega
  · split <;> omega
section
variable {w : World} {mean : ExcName → Option Value} {mg mb : Str → Option Value} {dp un : Nat} {gd : Option (List Code)} {cn : Str} {cs : Scope} {a : Addr} {ccd : Value} {cl : List (Str × Addr)} {outer : List Env} {A₀ : Around} {base h₀ : Heap} {L : Addr} {m : Str → Option Value} {s : Shared} {Q E : Value → Shared → Prop}
  {news tl : List (Addr × Obj)} {src : Addr} {x y : Int} {t u tt : Tok} {n : Nat}
  {l : Addr} {vs : List Value} {ns : List Int}
theorem pool_ok (B : Below A₀ base outer h₀) (F : Fr h₀ L s.heap m) (X : (hd.heap_39 w.params).In h₀) (N : News h₀ L s.heap news) (T : Top MineHead.VW (looseW MineHead.VW []) mean mg mb h₀) (hk : cs.kind = .function) (hl : base.IsList l vs.toArray) (hi : IntsAre vs ns) (hn63 : ns.length ≤ 63) (hdp : dp + 2 < recursionLimit) (hu : un + 210 < cLine)
    (ret : ∀ (src : Addr) (x y : Int) (t u : Tok) (n : Nat) (h' : Heap) (tk' : Nat), (∀ p ∈ news, p.1 < src) → 0 ≤ x → 0 ≤ y → y < 2147483647 → Fr h₀ L h' m → News h₀ L h' ((src, srcO x y t u n) :: news) → Q (.ref src) { s with heap := h', toks := tk' }) :
    wpAny (model PySem.Challenge.rw_pb0537_01.row.prog w) (ktrTop dp un gd cn cs L a ccd cl outer) (call (.ref 201) [.ref l]) Q E s := by
  revert X; k_fill; intro X
  refine wpAny_call ?_
  k_dflt cell_enter
  k_steps
  all_goals refine ret _ _ _ _ _ _ _ _ (by with_reducible assumption) ?_ (Int.fmod_nonneg_of_pos _ (by decide)) (Int.fmod_lt_of_pos _ (by decide)) (by with_reducible assumption) (by with_reducible assumption)
  all_goals exact pool_x
end

end
section
open PySem PySem.W PyProof.Rows PySem.Spec PySem.Calls
def oItems (o : Obj) : List Value := match o.data with | .seq its _ => its.toList | _ => []
def isSeqO (o : Obj) : Bool := match o.data with | .seq _ _ => true | _ => false
section
variable {prog : Program} {w : World} {A : Around} {E : Value → Shared → Prop} {s : Shared} {h₀ : Heap} {L l : Addr} {m : Str → Option Value} {news : List (Addr × Obj)} {o : Obj} {k : Int} {u : Tok} {x : Value} {Q : Value → Shared → Prop}
theorem seqO (h : isSeqO o = true) : ∃ n, o.data = .seq (oItems o).toArray n := by
  obtain ⟨c, d, i, sl⟩ := o
  cases i <;> simp [isSeqO, oItems] at h ⊢
theorem item_gen {value slice : Expr} (N : News h₀ L s.heap news) (hm : (l, o) ∈ news) (hk : o.cls = .type "tuple" ∨ (o.cls = .type "list" ∧ ∀ r, letTemporaryGo value (.ref l) r = pure ())) (hq : isSeqO o = true)
    (hlo : 0 ≤ k) (hhi : k < 2 ^ 63) (hx : (oItems o)[k.toNat]? = some x) (h : Q x s)
    (hs : subscripted slice false (.ref l) (.int k u) = operate [.ref l, .int k u] (getItem (.ref l) (.int k u)) := by with_unfolding_all rfl) :
    wpAny (model prog w) A (subscriptTail value slice (.ref l) (.int k u)) Q E s := by
  obtain ⟨n, hd⟩ := seqO hq
  have hlt : k.toNat < (oItems o).length := (List.getElem?_eq_some_iff.mp hx).1
  rcases hk with hc | ⟨hc, hg⟩
  · refine item_tupleT ⟨o, (N _ hm).1, hc, n, hd⟩ (by omega) hhi (j := k.toNat) ?_ hx h hs
    have h1 : (0:Int) ≤ k ∧ k < ((oItems o).length : Int) := by omega
    simp [seqIndex?, h1]
    omega
  · refine item_list ⟨o, (N _ hm).1, hc, n, hd⟩ hlo hhi (by simpa using hx) h hs hg
end

end
section
open PySem PySem.W PyProof.Rows PySem.Spec PySem.Calls
set_option maxRecDepth 100000
set_option maxHeartbeats 8000000
theorem allLt_out {d : Nat} : ∀ {l : List (Addr × Obj)}, AllLt d l → ∀ p ∈ l, @LT.lt Nat _ p.1 d
  | [], _, _, h => nomatch h
  | q :: r, x, p, h => by
    rcases List.mem_cons.mp h with rfl | h
    · exact x.1
    · exact allLt_out x.2 p h
theorem allLt_in {d : Nat} : ∀ {l : List (Addr × Obj)}, (∀ p ∈ l, @LT.lt Nat _ p.1 d) → AllLt d l
  | [], _ => trivial
  | q :: r, h => ⟨h q List.mem_cons_self, allLt_in fun p hp => h p (List.mem_cons_of_mem _ hp)⟩

theorem lines14 : True := by
  k_with_none
  k_with "k_ne" => (first | with_reducible assumption | exact Ne.symm (by with_reducible assumption) | exact ne_gt (by with_reducible assumption) | exact ne_lt (by with_reducible assumption) | exact ne_gt (cj0 (by with_reducible assumption)) | exact ne_lt (cj0 (by with_reducible assumption)) | exact ne_gt (cj1 (by with_reducible assumption)) | exact ne_lt (cj1 (by with_reducible assumption)) | exact ne_gt (cj2 (by with_reducible assumption)) | exact ne_lt (cj2 (by with_reducible assumption)) | exact ne_gt (cj3 (by with_reducible assumption)) | exact ne_lt (cj3 (by with_reducible assumption)) | exact ne_gt (cj4 (by with_reducible assumption)) | exact ne_lt (cj4 (by with_reducible assumption)) | exact ne_gt (cj5 (by with_reducible assumption)) | exact ne_lt (cj5 (by with_reducible assumption)) | exact ne_gt (cj6 (by with_reducible assumption)) | exact ne_lt (cj6 (by with_reducible assumption)) | exact ne_gt (cj7 (by with_reducible assumption)) | exact ne_lt (cj7 (by with_reducible assumption)) | exact ne_gt (cj8 (by with_reducible assumption)) | exact ne_lt (cj8 (by with_reducible assumption)) | exact ne_gt (cj9 (by with_reducible assumption)) | exact ne_lt (cj9 (by with_reducible assumption)) | exact ne_gt (cj10 (by with_reducible assumption)) | exact ne_lt (cj10 (by with_reducible assumption)) | exact ne_gt (cj11 (by with_reducible assumption)) | exact ne_lt (cj11 (by with_reducible assumption)) | exact ne_gt (cj12 (by with_reducible assumption)) | exact ne_lt (cj12 (by with_reducible assumption)) | exact ne_gt (cj13 (by with_reducible assumption)) | exact ne_lt (cj13 (by with_reducible assumption)) | exact ne_gt (cj14 (by with_reducible assumption)) | exact ne_lt (cj14 (by with_reducible assumption)) | exact ne_gt (cj15 (by with_reducible assumption)) | exact ne_lt (cj15 (by with_reducible assumption)) | exact ne_gt (cj16 (by with_reducible assumption)) | exact ne_lt (cj16 (by with_reducible assumption)) | exact ne_gt (cj17 (by with_reducible assumption)) | exact ne_lt (cj17 (by with_reducible assumption)) | exact ne_gt (cj18 (by with_reducible assumption)) | exact ne_lt (cj18 (by with_reducible assumption)) | exact ne_gt (cj19 (by with_reducible assumption)) | exact ne_lt (cj19 (by with_reducible assumption)) | exact ne_gt (cj20 (by with_reducible assumption)) | exact ne_lt (cj20 (by with_reducible assumption)) | exact ne_gt (cj21 (by with_reducible assumption)) | exact ne_lt (cj21 (by with_reducible assumption)) | exact ne_gt (cj22 (by with_reducible assumption)) | exact ne_lt (cj22 (by with_reducible assumption)) | exact ne_gt (cj23 (by with_reducible assumption)) | exact ne_lt (cj23 (by with_reducible assumption)) | exact ne_gt (cj24 (by with_reducible assumption)) | exact ne_lt (cj24 (by with_reducible assumption)) | exact ne_gt (cj25 (by with_reducible assumption)) | exact ne_lt (cj25 (by with_reducible assumption)) | exact ne_gt (ck1 (by with_reducible assumption)) | exact ne_lt (ck1 (by with_reducible assumption)) | exact ne_gt (ck2 (by with_reducible assumption)) | exact ne_lt (ck2 (by with_reducible assumption)) | exact ne_gt (ck3 (by with_reducible assumption)) | exact ne_lt (ck3 (by with_reducible assumption)) | exact ne_gt (ck4 (by with_reducible assumption)) | exact ne_lt (ck4 (by with_reducible assumption)) | exact ne_gt (ck5 (by with_reducible assumption)) | exact ne_lt (ck5 (by with_reducible assumption)) | exact ne_gt (ck6 (by with_reducible assumption)) | exact ne_lt (ck6 (by with_reducible assumption)) | exact ne_gt (ck7 (by with_reducible assumption)) | exact ne_lt (ck7 (by with_reducible assumption)) | exact ne_gt (ck8 (by with_reducible assumption)) | exact ne_lt (ck8 (by with_reducible assumption)) | exact ne_gt (ck9 (by with_reducible assumption)) | exact ne_lt (ck9 (by with_reducible assumption)) | exact ne_gt (ck10 (by with_reducible assumption)) | exact ne_lt (ck10 (by with_reducible assumption)) | exact ne_gt (ck11 (by with_reducible assumption)) | exact ne_lt (ck11 (by with_reducible assumption)) | exact ne_gt (ck12 (by with_reducible assumption)) | exact ne_lt (ck12 (by with_reducible assumption)) | exact ne_gt (ck13 (by with_reducible assumption)) | exact ne_lt (ck13 (by with_reducible assumption)) | exact ne_gt (ck14 (by with_reducible assumption)) | exact ne_lt (ck14 (by with_reducible assumption)) | exact ne_gt (ck15 (by with_reducible assumption)) | exact ne_lt (ck15 (by with_reducible assumption)) | exact ne_gt (ck16 (by with_reducible assumption)) | exact ne_lt (ck16 (by with_reducible assumption)) | exact ne_gt (ck17 (by with_reducible assumption)) | exact ne_lt (ck17 (by with_reducible assumption)) | exact ne_gt (ck18 (by with_reducible assumption)) | exact ne_lt (ck18 (by with_reducible assumption)) | exact ne_gt (ck19 (by with_reducible assumption)) | exact ne_lt (ck19 (by with_reducible assumption)) | exact ne_gt (ck20 (by with_reducible assumption)) | exact ne_lt (ck20 (by with_reducible assumption)) | exact ne_gt (ck21 (by with_reducible assumption)) | exact ne_lt (ck21 (by with_reducible assumption)) | exact ne_gt (ck22 (by with_reducible assumption)) | exact ne_lt (ck22 (by with_reducible assumption)) | exact ne_gt (ck23 (by with_reducible assumption)) | exact ne_lt (ck23 (by with_reducible assumption)) | exact ne_gt (ck24 (by with_reducible assumption)) | exact ne_lt (ck24 (by with_reducible assumption)) | exact ne_gt (ck25 (by with_reducible assumption)) | exact ne_lt (ck25 (by with_reducible assumption)))
  k_with "ktr_room" => (first | exact room2 (by with_reducible assumption) (by decide) | exact room1 (by with_reducible assumption) (by decide) | exact room0 (by with_reducible assumption) | exact room3 (by with_reducible assumption) (by decide))
  k_with "ktr_units" => (first | exact room2 (by with_reducible assumption) (by decide) | exact room1 (by with_reducible assumption) (by decide) | exact room0 (by with_reducible assumption) | exact room3 (by with_reducible assumption) (by decide))
  k_with "ke_room" => (first | exact room2 (by with_reducible assumption) (by decide) | exact room1 (by with_reducible assumption) (by decide) | exact room0 (by with_reducible assumption) | exact room3 (by with_reducible assumption) (by decide))
  k_with "call ref" => (k_here; k_dflt (refine' take_ok (by (k_asm)) (by (k_asm)) (by (k_asm)) (by (k_asm)) (by (k_asm)) (by (first | exact rfl | assumption)) (by (k_updF)) (by (assumption)) (by (assumption)) (by (assumption)) (by (first | decide | omega)) (by (first | decide | omega)) (by (ktr_room)) (by (ktr_units)) ?_; intro v' tv' x' y' t' u' n' h' tk' hx' hy' hy2' hv' hv2' F' N'; (try dsimp only at N'); (try k_sweep); (try dsimp only); (try k_fold)))
  k_with "call ref" => (k_here; k_dflt (refine' one_int smallInt (by (k_asm)) (by (k_asm)) (by (k_asm)) (by (k_asm)) (by (k_asm)) (by (first | exact rfl | assumption)) (by (k_updF)) (by (assumption)) (by (assumption)) (by (assumption)) (by (k_mem)) (by (k_ne)) (by (exact Nat.le_of_ble_eq_true rfl)) (by (exact Nat.le_of_ble_eq_true rfl)) (by ((repeat (first | exact ints_nil | refine ints_cons (by decide) ?_))); (fail_if_success exfalso)) (by (ktr_room)) (by (ktr_units)) ?_; intro v' tv' x' y' t' u' n' h' tk' hv' hx' hy' hy2' F' N'; (try dsimp only at N'); (try k_sweep); (try dsimp only); (try k_fold)))
  exact True.intro
section
variable {w : World} {mean : ExcName → Option Value} {mg mb : Str → Option Value} {dp un : Nat} {gd : Option (List Code)} {cn : Str} {cs : Scope} {a : Addr} {ccd : Value} {cl : List (Str × Addr)} {outer : List Env} {A₀ : Around} {base h₀ : Heap} {L : Addr} {m : Str → Option Value} {s : Shared} {Q E : Value → Shared → Prop}
  {news tl : List (Addr × Obj)} {src : Addr} {x y : Int} {t u tt : Tok} {n : Nat}
theorem bridge_frB (B : Below A₀ base outer h₀) (F : Fr h₀ L s.heap m) (X : (hd.heap_39 w.params).In h₀) (N : News h₀ L s.heap ((src, srcO x y t u n) :: tl)) (T : Top MineHead.VW (looseW MineHead.VW []) mean mg mb h₀) (hk : cs.kind = .function) (hn : ∀ p ∈ tl, p.1 ≠ src) (hx : 0 ≤ x) (hy : 0 ≤ y) (hy2 : y < 2147483647) (hdp : dp + 3 < recursionLimit) (hu : un + 220 < cLine)
    (ret : ∀ (b : Addr) (p q : Int) (tp tq : Tok) (x' y' : Int) (t' u' : Tok) (n' : Nat) (h' : Heap) (tk' : Nat), (@LT.lt Nat _ src b ∧ AllLt b tl) → 0 ≤ x' → 0 ≤ y' → y' < 2147483647 → Fr h₀ L h' m →
      News h₀ L h' ((b, tupO [.int p tp, .int q tq]) :: (src, srcO x' y' t' u' n') :: tl) → Q (.ref b) { s with heap := h', toks := tk' }) :
    wpAny (model PySem.Challenge.rw_pb0537_01.row.prog w) (ktrTop dp un gd cn cs L a ccd cl outer) (call (.ref 222) [.ref src]) Q E s := by
  revert X; k_fill; intro X
  refine wpAny_call ?_
  k_dflt cell_enter
  k_steps
  refine ret _ _ _ _ _ _ _ _ _ _ _ _ ?_ ?_ ?_ ?_ (by assumption) (cb_drop (by assumption) (by kqd_sub)) <;> first | assumption | (refine ⟨?_, ?_⟩ <;> first | assumption | omega | (rename _ ∧ _ => hz; first | exact hz.2 | exact hz.2.2 | exact hz.2.2.2 | exact hz.2.2.2.2 | exact hz.2.2.2.2.2 | exact hz.2.2.2.2.2.2 | exact hz.2.2.2.2.2.2.2 | exact hz.2.2.2.2.2.2.2.2 | exact hz.2.2.2.2.2.2.2.2.2 | exact hz.2.2.2.2.2.2.2.2.2.2 | exact hz.2.2.2.2.2.2.2.2.2.2.2 | (clear hz; (rename _ ∧ _ => hz; first | exact hz.2 | exact hz.2.2 | exact hz.2.2.2 | exact hz.2.2.2.2 | exact hz.2.2.2.2.2 | exact hz.2.2.2.2.2.2 | exact hz.2.2.2.2.2.2.2 | exact hz.2.2.2.2.2.2.2.2 | exact hz.2.2.2.2.2.2.2.2.2 | exact hz.2.2.2.2.2.2.2.2.2.2 | exact hz.2.2.2.2.2.2.2.2.2.2.2 | (clear hz; (rename _ ∧ _ => hz; first | exact hz.2 | exact hz.2.2 | exact hz.2.2.2 | exact hz.2.2.2.2 | exact hz.2.2.2.2.2 | exact hz.2.2.2.2.2.2 | exact hz.2.2.2.2.2.2.2 | exact hz.2.2.2.2.2.2.2.2 | exact hz.2.2.2.2.2.2.2.2.2 | exact hz.2.2.2.2.2.2.2.2.2.2 | exact hz.2.2.2.2.2.2.2.2.2.2.2 | (clear hz; (rename _ ∧ _ => hz; first | exact hz.2 | exact hz.2.2 | exact hz.2.2.2 | exact hz.2.2.2.2 | exact hz.2.2.2.2.2 | exact hz.2.2.2.2.2.2 | exact hz.2.2.2.2.2.2.2 | exact hz.2.2.2.2.2.2.2.2 | exact hz.2.2.2.2.2.2.2.2.2 | exact hz.2.2.2.2.2.2.2.2.2.2 | exact hz.2.2.2.2.2.2.2.2.2.2.2 | (clear hz; (rename _ ∧ _ => hz; first | exact hz.2 | exact hz.2.2 | exact hz.2.2.2 | exact hz.2.2.2.2 | exact hz.2.2.2.2.2 | exact hz.2.2.2.2.2.2 | exact hz.2.2.2.2.2.2.2 | exact hz.2.2.2.2.2.2.2.2 | exact hz.2.2.2.2.2.2.2.2.2 | exact hz.2.2.2.2.2.2.2.2.2.2 | exact hz.2.2.2.2.2.2.2.2.2.2.2 | (clear hz; (rename _ ∧ _ => hz; first | exact hz.2 | exact hz.2.2 | exact hz.2.2.2 | exact hz.2.2.2.2 | exact hz.2.2.2.2.2 | exact hz.2.2.2.2.2.2 | exact hz.2.2.2.2.2.2.2 | exact hz.2.2.2.2.2.2.2.2 | exact hz.2.2.2.2.2.2.2.2.2 | exact hz.2.2.2.2.2.2.2.2.2.2 | exact hz.2.2.2.2.2.2.2.2.2.2.2 | (clear hz; (rename _ ∧ _ => hz; first | exact hz.2 | exact hz.2.2 | exact hz.2.2.2 | exact hz.2.2.2.2 | exact hz.2.2.2.2.2 | exact hz.2.2.2.2.2.2 | exact hz.2.2.2.2.2.2.2 | exact hz.2.2.2.2.2.2.2.2 | exact hz.2.2.2.2.2.2.2.2.2 | exact hz.2.2.2.2.2.2.2.2.2.2 | exact hz.2.2.2.2.2.2.2.2.2.2.2 | (clear hz; (rename _ ∧ _ => hz; first | exact hz.2 | exact hz.2.2 | exact hz.2.2.2 | exact hz.2.2.2.2 | exact hz.2.2.2.2.2 | exact hz.2.2.2.2.2.2 | exact hz.2.2.2.2.2.2.2 | exact hz.2.2.2.2.2.2.2.2 | exact hz.2.2.2.2.2.2.2.2.2 | exact hz.2.2.2.2.2.2.2.2.2.2 | exact hz.2.2.2.2.2.2.2.2.2.2.2 | (clear hz; (rename _ ∧ _ => hz; first | exact hz.2 | exact hz.2.2 | exact hz.2.2.2 | exact hz.2.2.2.2 | exact hz.2.2.2.2.2 | exact hz.2.2.2.2.2.2 | exact hz.2.2.2.2.2.2.2 | exact hz.2.2.2.2.2.2.2.2 | exact hz.2.2.2.2.2.2.2.2.2 | exact hz.2.2.2.2.2.2.2.2.2.2 | exact hz.2.2.2.2.2.2.2.2.2.2.2 | (clear hz; (rename _ ∧ _ => hz; first | exact hz.2 | exact hz.2.2 | exact hz.2.2.2 | exact hz.2.2.2.2 | exact hz.2.2.2.2.2 | exact hz.2.2.2.2.2.2 | exact hz.2.2.2.2.2.2.2 | exact hz.2.2.2.2.2.2.2.2 | exact hz.2.2.2.2.2.2.2.2.2 | exact hz.2.2.2.2.2.2.2.2.2.2 | exact hz.2.2.2.2.2.2.2.2.2.2.2 | (clear hz; (rename _ ∧ _ => hz; first | exact hz.2 | exact hz.2.2 | exact hz.2.2.2 | exact hz.2.2.2.2 | exact hz.2.2.2.2.2 | exact hz.2.2.2.2.2.2 | exact hz.2.2.2.2.2.2.2 | exact hz.2.2.2.2.2.2.2.2 | exact hz.2.2.2.2.2.2.2.2.2 | exact hz.2.2.2.2.2.2.2.2.2.2 | exact hz.2.2.2.2.2.2.2.2.2.2.2))))))))))))))))))))))
theorem bridge_fr (B : Below A₀ base outer h₀) (F : Fr h₀ L s.heap m) (X : (hd.heap_39 w.params).In h₀) (N : News h₀ L s.heap news) (T : Top MineHead.VW (looseW MineHead.VW []) mean mg mb h₀) (hk : cs.kind = .function) {g : Obj → List (Addr × Obj)} (U : UpdF src (srcO x y t u n) news g) (hx : 0 ≤ x) (hy : 0 ≤ y) (hy2 : y < 2147483647) (hdp : dp + 3 < recursionLimit) (hu : un + 220 < cLine)
    (ret : ∀ (b : Addr) (p q : Int) (tp tq : Tok) (x' y' : Int) (t' u' : Tok) (n' : Nat) (h' : Heap) (tk' : Nat), b ≠ src → AllLt b news → 0 ≤ x' → 0 ≤ y' → y' < 2147483647 → Fr h₀ L h' m →
      News h₀ L h' ((b, tupO [.int p tp, .int q tq]) :: g (srcO x' y' t' u' n')) → Q (.ref b) { s with heap := h', toks := tk' }) :
    wpAny (model PySem.Challenge.rw_pb0537_01.row.prog w) (ktrTop dp un gd cn cs L a ccd cl outer) (call (.ref 222) [.ref src]) Q E s := by
  obtain ⟨tl, hn, e1, e2⟩ := updF_perm U
  refine bridge_frB B F X (fun p hp => N p ((e1 p).mpr hp)) T hk hn hx hy hy2 hdp hu fun b p q tp tq x' y' t' u' n' h' tk' hb i1 i2 i3 F' N' => ret b p q tp tq x' y' t' u' n' h' tk' (Nat.ne_of_gt hb.1) ?_ i1 i2 i3 F' fun r hr => N' r ?_
  · refine allLt_in fun r hr => ?_
    rcases List.mem_cons.mp ((e1 r).mp hr) with rfl | h
    · exact hb.1
    · exact allLt_out hb.2 r h
  · rcases List.mem_cons.mp hr with rfl | hr
    · exact .head _
    · exact .tail _ ((e2 _ r).mp hr)
theorem bridge_ok (B : Below A₀ base outer h₀) (F : Fr h₀ L s.heap m) (X : (hd.heap_39 w.params).In h₀) (N : News h₀ L s.heap news) (T : Top MineHead.VW (looseW MineHead.VW []) mean mg mb h₀) (hk : cs.kind = .function) {g : Obj → List (Addr × Obj)} (U : UpdF src (srcO x y t u n) news g) (hx : 0 ≤ x) (hy : 0 ≤ y) (hy2 : y < 2147483647) (hdp : dp + 3 < recursionLimit) (hu : un + 220 < cLine)
    (ret : ∀ (b : Addr) (p q : Int) (tp tq : Tok) (x' y' : Int) (t' u' : Tok) (n' : Nat) (h' : Heap) (tk' : Nat), b ≠ src → 0 ≤ x' → 0 ≤ y' → y' < 2147483647 → Fr h₀ L h' m →
      News h₀ L h' ((b, tupO [.int p tp, .int q tq]) :: g (srcO x' y' t' u' n')) → Q (.ref b) { s with heap := h', toks := tk' }) :
    wpAny (model PySem.Challenge.rw_pb0537_01.row.prog w) (ktrTop dp un gd cn cs L a ccd cl outer) (call (.ref 222) [.ref src]) Q E s :=
  bridge_fr B F X N T hk U hx hy hy2 hdp hu fun b p q tp tq x' y' t' u' n' h' tk' hb _ => ret b p q tp tq x' y' t' u' n' h' tk' hb
end
theorem lines15 : True := by
  k_with "call ref" => (k_here; k_dflt (refine' bridge_fr (by (k_asm)) (by (k_asm)) (by (k_asm)) (by (k_asm)) (by (k_asm)) (by (first | exact rfl | assumption)) (by (k_updF)) (by (assumption)) (by (assumption)) (by (assumption))  (by (ktr_room)) (by (ktr_units)) ?_; intro b' p' q' tp' tq' x' y' t' u' n' h' tk' hb' l1 hx' hy' hy2' F' N'; (try dsimp only at N'); (try replace hb' := neN hb'); (try simp only [AllLt] at l1); (try k_sweep); (try dsimp only); (try k_fold)))
  exact True.intro
section
variable {w : World} {mean : ExcName → Option Value} {mg mb : Str → Option Value} {dp un : Nat} {gd : Option (List Code)} {cn : Str} {cs : Scope} {a : Addr} {ccd : Value} {cl : List (Str × Addr)} {outer : List Env} {A₀ : Around} {base h₀ : Heap} {L : Addr} {m : Str → Option Value} {s : Shared} {Q E : Value → Shared → Prop}
  {news tl : List (Addr × Obj)} {src : Addr} {x y : Int} {t u tt : Tok} {n : Nat}
theorem vector_frB (B : Below A₀ base outer h₀) (F : Fr h₀ L s.heap m) (X : (hd.heap_39 w.params).In h₀) (N : News h₀ L s.heap ((src, srcO x y t u n) :: tl)) (T : Top MineHead.VW (looseW MineHead.VW []) mean mg mb h₀) (hk : cs.kind = .function) (hn : ∀ p ∈ tl, p.1 ≠ src) (hx : 0 ≤ x) (hy : 0 ≤ y) (hy2 : y < 2147483647) (hdp : dp + 4 < recursionLimit) (hu : un + 230 < cLine)
    (ret : ∀ (v r b p : Addr) (i0 i1 i2 i3 i4 i5 i6 : Int) (t0 t1 t2 t3 t4 t5 t6 : Tok) (x' y' : Int) (t' u' : Tok) (n' : Nat) (h' : Heap) (tk' : Nat), (@LT.lt Nat _ src v ∧ AllLt v tl) → (@LT.lt Nat _ src r ∧ AllLt r tl) → (@LT.lt Nat _ src b ∧ AllLt b tl) → (@LT.lt Nat _ src p ∧ AllLt p tl) → 0 ≤ x' → 0 ≤ y' → y' < 2147483647 → Fr h₀ L h' m →
      News h₀ L h' ((v, tupO [.ref r, .int i2 t2, .ref b, .ref p]) :: (r, tupO [.int i0 t0, .int i1 t1]) :: (b, tupO [.int i3 t3, .int i4 t4]) :: (p, tupO [.int i5 t5, .int i6 t6]) :: (src, srcO x' y' t' u' n') :: tl) →
      Q (.ref v) { s with heap := h', toks := tk' }) :
    wpAny (model PySem.Challenge.rw_pb0537_01.row.prog w) (ktrTop dp un gd cn cs L a ccd cl outer) (call (.ref 229) [.ref src]) Q E s := by
  revert X; k_fill; intro X
  refine wpAny_call ?_
  k_dflt cell_enter
  k_steps
  refine ret _ _ _ _ _ _ _ _ _ _ _ _ _ _ _ _ _ _ _ _ _ _ _ _ _ ?_ ?_ ?_ ?_ ?_ ?_ ?_ (by assumption) (cb_drop (by assumption) (by kqd_sub)) <;> first | assumption | (refine ⟨?_, ?_⟩ <;> first | assumption | omega | (rename _ ∧ _ => hz; first | exact hz.2 | exact hz.2.2 | exact hz.2.2.2 | exact hz.2.2.2.2 | exact hz.2.2.2.2.2 | exact hz.2.2.2.2.2.2 | exact hz.2.2.2.2.2.2.2 | exact hz.2.2.2.2.2.2.2.2 | exact hz.2.2.2.2.2.2.2.2.2 | exact hz.2.2.2.2.2.2.2.2.2.2 | exact hz.2.2.2.2.2.2.2.2.2.2.2 | (clear hz; (rename _ ∧ _ => hz; first | exact hz.2 | exact hz.2.2 | exact hz.2.2.2 | exact hz.2.2.2.2 | exact hz.2.2.2.2.2 | exact hz.2.2.2.2.2.2 | exact hz.2.2.2.2.2.2.2 | exact hz.2.2.2.2.2.2.2.2 | exact hz.2.2.2.2.2.2.2.2.2 | exact hz.2.2.2.2.2.2.2.2.2.2 | exact hz.2.2.2.2.2.2.2.2.2.2.2 | (clear hz; (rename _ ∧ _ => hz; first | exact hz.2 | exact hz.2.2 | exact hz.2.2.2 | exact hz.2.2.2.2 | exact hz.2.2.2.2.2 | exact hz.2.2.2.2.2.2 | exact hz.2.2.2.2.2.2.2 | exact hz.2.2.2.2.2.2.2.2 | exact hz.2.2.2.2.2.2.2.2.2 | exact hz.2.2.2.2.2.2.2.2.2.2 | exact hz.2.2.2.2.2.2.2.2.2.2.2 | (clear hz; (rename _ ∧ _ => hz; first | exact hz.2 | exact hz.2.2 | exact hz.2.2.2 | exact hz.2.2.2.2 | exact hz.2.2.2.2.2 | exact hz.2.2.2.2.2.2 | exact hz.2.2.2.2.2.2.2 | exact hz.2.2.2.2.2.2.2.2 | exact hz.2.2.2.2.2.2.2.2.2 | exact hz.2.2.2.2.2.2.2.2.2.2 | exact hz.2.2.2.2.2.2.2.2.2.2.2 | (clear hz; (rename _ ∧ _ => hz; first | exact hz.2 | exact hz.2.2 | exact hz.2.2.2 | exact hz.2.2.2.2 | exact hz.2.2.2.2.2 | exact hz.2.2.2.2.2.2 | exact hz.2.2.2.2.2.2.2 | exact hz.2.2.2.2.2.2.2.2 | exact hz.2.2.2.2.2.2.2.2.2 | exact hz.2.2.2.2.2.2.2.2.2.2 | exact hz.2.2.2.2.2.2.2.2.2.2.2 | (clear hz; (rename _ ∧ _ => hz; first | exact hz.2 | exact hz.2.2 | exact hz.2.2.2 | exact hz.2.2.2.2 | exact hz.2.2.2.2.2 | exact hz.2.2.2.2.2.2 | exact hz.2.2.2.2.2.2.2 | exact hz.2.2.2.2.2.2.2.2 | exact hz.2.2.2.2.2.2.2.2.2 | exact hz.2.2.2.2.2.2.2.2.2.2 | exact hz.2.2.2.2.2.2.2.2.2.2.2 | (clear hz; (rename _ ∧ _ => hz; first | exact hz.2 | exact hz.2.2 | exact hz.2.2.2 | exact hz.2.2.2.2 | exact hz.2.2.2.2.2 | exact hz.2.2.2.2.2.2 | exact hz.2.2.2.2.2.2.2 | exact hz.2.2.2.2.2.2.2.2 | exact hz.2.2.2.2.2.2.2.2.2 | exact hz.2.2.2.2.2.2.2.2.2.2 | exact hz.2.2.2.2.2.2.2.2.2.2.2 | (clear hz; (rename _ ∧ _ => hz; first | exact hz.2 | exact hz.2.2 | exact hz.2.2.2 | exact hz.2.2.2.2 | exact hz.2.2.2.2.2 | exact hz.2.2.2.2.2.2 | exact hz.2.2.2.2.2.2.2 | exact hz.2.2.2.2.2.2.2.2 | exact hz.2.2.2.2.2.2.2.2.2 | exact hz.2.2.2.2.2.2.2.2.2.2 | exact hz.2.2.2.2.2.2.2.2.2.2.2 | (clear hz; (rename _ ∧ _ => hz; first | exact hz.2 | exact hz.2.2 | exact hz.2.2.2 | exact hz.2.2.2.2 | exact hz.2.2.2.2.2 | exact hz.2.2.2.2.2.2 | exact hz.2.2.2.2.2.2.2 | exact hz.2.2.2.2.2.2.2.2 | exact hz.2.2.2.2.2.2.2.2.2 | exact hz.2.2.2.2.2.2.2.2.2.2 | exact hz.2.2.2.2.2.2.2.2.2.2.2 | (clear hz; (rename _ ∧ _ => hz; first | exact hz.2 | exact hz.2.2 | exact hz.2.2.2 | exact hz.2.2.2.2 | exact hz.2.2.2.2.2 | exact hz.2.2.2.2.2.2 | exact hz.2.2.2.2.2.2.2 | exact hz.2.2.2.2.2.2.2.2 | exact hz.2.2.2.2.2.2.2.2.2 | exact hz.2.2.2.2.2.2.2.2.2.2 | exact hz.2.2.2.2.2.2.2.2.2.2.2 | (clear hz; (rename _ ∧ _ => hz; first | exact hz.2 | exact hz.2.2 | exact hz.2.2.2 | exact hz.2.2.2.2 | exact hz.2.2.2.2.2 | exact hz.2.2.2.2.2.2 | exact hz.2.2.2.2.2.2.2 | exact hz.2.2.2.2.2.2.2.2 | exact hz.2.2.2.2.2.2.2.2.2 | exact hz.2.2.2.2.2.2.2.2.2.2 | exact hz.2.2.2.2.2.2.2.2.2.2.2))))))))))))))))))))))
def VecFresh (news new : List (Addr × Obj)) : Prop := ∀ q ∈ new, AllLt q.1 news
theorem vector_fr (B : Below A₀ base outer h₀) (F : Fr h₀ L s.heap m) (X : (hd.heap_39 w.params).In h₀) (N : News h₀ L s.heap news) (T : Top MineHead.VW (looseW MineHead.VW []) mean mg mb h₀) (hk : cs.kind = .function) {g : Obj → List (Addr × Obj)} (U : UpdF src (srcO x y t u n) news g) (hx : 0 ≤ x) (hy : 0 ≤ y) (hy2 : y < 2147483647) (hdp : dp + 4 < recursionLimit) (hu : un + 230 < cLine)
    (ret : ∀ (v : Addr) (d : Vec) (new : List (Addr × Obj)) (x' y' : Int) (t' u' : Tok) (n' : Nat) (h' : Heap) (tk' : Nat), VecFresh news new → VecIn new v d → 0 ≤ x' → 0 ≤ y' → y' < 2147483647 → Fr h₀ L h' m →
      News h₀ L h' (new ++ g (srcO x' y' t' u' n')) → Q (.ref v) { s with heap := h', toks := tk' }) :
    wpAny (model PySem.Challenge.rw_pb0537_01.row.prog w) (ktrTop dp un gd cn cs L a ccd cl outer) (call (.ref 229) [.ref src]) Q E s := by
  obtain ⟨tl, hn, e1, e2⟩ := updF_perm U
  have key : ∀ {b : Addr}, (@LT.lt Nat _ src b ∧ AllLt b tl) → AllLt b news := fun hb => allLt_in fun r hr => by
    rcases List.mem_cons.mp ((e1 r).mp hr) with rfl | h
    · exact hb.1
    · exact allLt_out hb.2 r h
  refine vector_frB B F X (fun p hp => N p ((e1 p).mpr hp)) T hk hn hx hy hy2 hdp hu fun v r b p i0 i1 i2 i3 i4 i5 i6 t0 t1 t2 t3 t4 t5 t6 x' y' t' u' n' h' tk' hv hr hb hp j1 j2 j3 F' N' =>
    ret v ⟨i0, i1, i2, i3, i4, i5, i6⟩ [(v, tupO [.ref r, .int i2 t2, .ref b, .ref p]), (r, tupO [.int i0 t0, .int i1 t1]), (b, tupO [.int i3 t3, .int i4 t4]), (p, tupO [.int i5 t5, .int i6 t6])] x' y' t' u' n' h' tk' ?_ ?_ j1 j2 j3 F' fun q hq => N' q ?_
  · intro q hq
    simp only [List.mem_cons, List.not_mem_nil, or_false] at hq
    rcases hq with rfl | rfl | rfl | rfl
    · exact key hv
    · exact key hr
    · exact key hb
    · exact key hp
  · exact ⟨r, b, p, t0, t1, t2, t3, t4, t5, t6, .head _, .tail _ (.head _), .tail _ (.tail _ (.head _)), .tail _ (.tail _ (.tail _ (.head _)))⟩
  · simp only [List.cons_append, List.nil_append, List.mem_cons, e2] at hq ⊢
    exact hq
end

end
section
open PySem PySem.W PyProof.Rows PySem.Spec PySem.Calls
open PyProof.Rows.LCg
/-- the list's values are the vectors ds, all of whose objects lie in tl -/
def Vecs (tl : List (Addr × Obj)) : List Value → List Vec → Prop
  | [], [] => True
  | v :: vs, d :: ds => (∃ a, v = .ref a ∧ VecIn tl a d) ∧ Vecs tl vs ds
  | _, _ => False
theorem Vecs.sub {t1 t2 : List (Addr × Obj)} (h : ∀ p ∈ t1, p ∈ t2) : ∀ {vs : List Value} {ds : List Vec}, Vecs t1 vs ds → Vecs t2 vs ds
  | [], [], _ => trivial
  | _ :: _, _ :: _, ⟨⟨a, e, V⟩, r⟩ => ⟨⟨a, e, V.sub h⟩, Vecs.sub h r⟩
  | [], _ :: _, x => x.elim
  | _ :: _, [], x => x.elim
theorem Vecs.snoc {tl : List (Addr × Obj)} {a : Addr} {d : Vec} (V : VecIn tl a d) : ∀ {vs : List Value} {ds : List Vec}, Vecs tl vs ds → Vecs tl (vs ++ [.ref a]) (ds ++ [d])
  | [], [], _ => ⟨⟨a, rfl, V⟩, trivial⟩
  | _ :: _, _ :: _, ⟨x, r⟩ => ⟨x, Vecs.snoc V r⟩
  | [], _ :: _, x => x.elim
  | _ :: _, [], x => x.elim
structure Led (src : Addr) (vl : List (Addr × Obj)) (ys : List Value) (ds : List Vec) (x y : Int) : Prop where
  hx : 0 ≤ x
  hy : 0 ≤ y
  hy2 : y < 2147483647
  hn : ∀ p ∈ vl, @LT.lt Nat _ src p.1
  hv : Vecs vl ys ds
section
variable {prog : Program} {w : World} {A : Around} {h₀ : Heap} {L : Addr} {m : Str → Option Value} {env : Env} {elt : PySem.Expr} {xn : Str} {scope : Scope} {cl : List (Str × Addr)} {s : Shared} {P : Nat → Value → Prop} {Fin : List Value → List (Addr × Obj) → Prop} {src : Addr} {rest : List (Addr × Obj)}
def VecStep (prog : Program) (w : World) (A : Around) (h₀ : Heap) (L : Addr) (m : Str → Option Value) (env : Env) (elt : PySem.Expr) (scope : Scope) (cl : List (Str × Addr)) (s : Shared) (src : Addr) (rest : List (Addr × Obj)) : Prop :=
  ∀ (I C D : Addr) (oI oC : Obj) (ys : List Value) (m₂ : Str → Option Value) (h : Heap) (tk : Nat) (tl : List (Addr × Obj)) (x y : Int) (t u : Tok) (n : Nat) (Q E' : Value → Shared → Prop),
    0 ≤ x → 0 ≤ y → y < 2147483647 → (∀ p ∈ tl, p.1 ≠ src) → NsObj oC m₂ → Fr h₀ L h m → News h₀ L h ((I, oI) :: (C, oC) :: (D, lst ys) :: (src, srcO x y t u n) :: (rest ++ tl)) → @Ne Nat I src → @Ne Nat C src → @Ne Nat D src →
    (∀ (a : Addr) (d : Vec) (new : List (Addr × Obj)) (x' y' : Int) (t' u' : Tok) (n' : Nat) (h' : Heap) (tk' : Nat), VecFresh ((I, oI) :: (C, oC) :: (D, lst ys) :: (src, srcO x y t u n) :: (rest ++ tl)) new → VecIn new a d → 0 ≤ x' → 0 ≤ y' → y' < 2147483647 → Fr h₀ L h' m →
      News h₀ L h' (new ++ (I, oI) :: (C, oC) :: (D, lst ys) :: (src, srcO x' y' t' u' n') :: (rest ++ tl)) → Q (.ref a) { s with heap := h', toks := tk' }) →
    wpAny (model prog w) A (eval elt (compEnvC scope cl C env)) Q E' { s with heap := h, toks := tk }
theorem comp_vecs {tot : Nat} (step : VecStep prog w A h₀ L m env elt scope cl s src rest)
    (fin : ∀ ys ds vl x y t u n, Led src vl ys ds x y → ys.length = tot → Fin ys ((src, srcO x y t u n) :: (rest ++ vl))) :
    ∀ (k i : Nat) (ys : List Value) (ds : List Vec) (vl : List (Addr × Obj)) (x y : Int) (t u : Tok) (n : Nat), Led src vl ys ds x y → ys.length + k = tot →
      CompRest prog w A h₀ L m env elt xn scope cl s (fun _ => True) P Fin k i ys ((src, srcO x y t u n) :: (rest ++ vl))
  | 0, i, ys, ds, vl, x, y, t, u, n, l, e => fin ys ds vl x y t u n l e
  | k + 1, i, ys, ds, vl, x, y, t, u, n, l, e => by
    refine CompRest.succ fun v I oI C oC D m₂ h tk E' hv hC hx F N off ne => ?_
    have o1 := off.mem (src, srcO x y t u n) List.mem_cons_self
    refine step I C D oI oC ys m₂ h tk vl x y t u n _ E' l.hx l.hy l.hy2 (fun p hp => Nat.ne_of_gt (l.hn p hp)) hC F N (Ne.symm o1.1) (Ne.symm o1.2.1) (Ne.symm o1.2.2) fun a d new x' y' t' u' n' h' tk' fr V i1 i2 i3 F' N' => ?_
    have lt : ∀ q ∈ new, @LT.lt Nat _ I q.1 ∧ @LT.lt Nat _ C q.1 ∧ @LT.lt Nat _ D q.1 ∧ @LT.lt Nat _ src q.1 := fun q hq => ⟨(fr q hq).1, (fr q hq).2.1, (fr q hq).2.2.1, (fr q hq).2.2.2.1⟩
    refine ⟨h', tk', (src, srcO x' y' t' u' n') :: (rest ++ (new ++ vl)), rfl, F', fun p hp => N' p ?_, ?_, trivial, comp_vecs step fin k (i + 1) (ys ++ [.ref a]) (ds ++ [d]) (new ++ vl) x' y' t' u' n' ⟨i1, i2, i3, ?_, ?_⟩ ?_⟩
    · simp only [List.mem_cons, List.mem_append] at hp ⊢
      rcases hp with h | h | h | h | h | h | h <;> simp [h]
    · refine Off3.of fun p hp => ?_
      rcases List.mem_cons.mp hp with rfl | hp
      · exact o1
      rcases List.mem_append.mp hp with hp | hp
      · exact off.mem p (List.mem_cons_of_mem _ (List.mem_append_left _ hp))
      rcases List.mem_append.mp hp with hp | hp
      · exact ⟨Nat.ne_of_gt (lt p hp).1, Nat.ne_of_gt (lt p hp).2.1, Nat.ne_of_gt (lt p hp).2.2.1⟩
      · exact off.mem p (List.mem_cons_of_mem _ (List.mem_append_right _ hp))
    · intro p hp
      rcases List.mem_append.mp hp with hp | hp
      · exact (lt p hp).2.2.2
      · exact l.hn p hp
    · exact Vecs.snoc (V.sub fun p hp => List.mem_append_left _ hp) (l.hv.sub fun p hp => List.mem_append_right _ hp)
    · rw [List.length_append]; simp only [List.length_singleton]; omega
end
theorem range_six {v : Int} (h0 : 0 ≤ v) (h1 : v < 6) : Builtin.Range.small 0 (1 + v) 1 = true ∧ Builtin.Range.rangeSize 0 (1 + v) 1 = (((1 + v).toNat : Nat) : Int) := by
  have : v = 0 ∨ v = 1 ∨ v = 2 ∨ v = 3 ∨ v = 4 ∨ v = 5 := by omega
  rcases this with rfl | rfl | rfl | rfl | rfl | rfl <;> exact ⟨by decide, by decide⟩

end
section
open PySem PySem.W PyProof.Rows PySem.Spec PySem.Calls
open PyProof.Rows.LCg
theorem subL_of {all : List (Addr × Obj)} : ∀ {l : List (Addr × Obj)}, (∀ p ∈ l, p ∈ all) → SubL l all
  | [], _ => trivial
  | p :: r, h => ⟨h p List.mem_cons_self, subL_of fun q hq => h q (List.mem_cons_of_mem _ hq)⟩
theorem Vecs.take {tl : List (Addr × Obj)} : ∀ {vs : List Value} {ds : List Vec} (k : Nat), Vecs tl vs ds → Vecs tl (vs.take k) (ds.take k)
  | _, _, 0, _ => by simp [Vecs]
  | [], [], _ + 1, _ => by simp [Vecs]
  | _ :: _, _ :: _, k + 1, ⟨x, r⟩ => ⟨x, Vecs.take k r⟩
  | [], _ :: _, _ + 1, x => x.elim
  | _ :: _, [], _ + 1, x => x.elim
section
variable {prog : Program} {w : World} {A : Around} {E : Value → Shared → Prop} {s : Shared} {env : Env} {h₀ : Heap} {target : PySem.Expr} {body : List Stmt} {Q : Flow → Shared → Prop} {src : Addr} {rest vl : List (Addr × Obj)} {S : Type} {cn : S → Str → Option Value}
/-- one turn over a vector: the source may change, the frame goes from one shape to another of the same kind -/
def TurnV (prog : Program) (w : World) (A : Around) (E : Value → Shared → Prop) (h₀ : Heap) (env : Env) (target : PySem.Expr) (body : List Stmt) (s : Shared) (src : Addr) (rest vl : List (Addr × Obj)) {S : Type} (cn : S → Str → Option Value) : Prop :=
  ∀ (a : Addr) (d : Vec) (c : S) (m : Str → Option Value) (x y : Int) (t u : Tok) (n : Nat) (h : Heap) (tk : Nat) (I : Addr) (oI : Obj) (P : Flow → Shared → Prop), VecIn vl a d → 0 ≤ x → 0 ≤ y → y < 2147483647 → oI.cls = .type "list_iterator" → AllLt I ((src, srcO x y t u n) :: rest) →
    m = cn c → Fr h₀ env.locals h m → News h₀ env.locals h ((I, oI) :: (src, srcO x y t u n) :: rest) →
    (∀ (c' : S) (m' : Str → Option Value) (x' y' : Int) (t' u' : Tok) (n' : Nat) (h' : Heap) (tk' : Nat), 0 ≤ x' → 0 ≤ y' → y' < 2147483647 → m' = cn c' → Fr h₀ env.locals h' m' → News h₀ env.locals h' ((I, oI) :: (src, srcO x' y' t' u' n') :: rest) → P .next { s with heap := h', toks := tk' }) →
    wpAny (model prog w) A (assign target env (.ref a)) (fun _ s₂ => wpAny (model prog w) A (execs body env) P E s₂) E { s with heap := h, toks := tk }

theorem items_vecs {I : Addr} {keep : List (Addr × Obj)} (hk : SubL keep rest) (hI : AllLt I rest) (hs : @LT.lt Nat _ src I) (turn : TurnV prog w A E h₀ env target body s src rest vl cn)
    (fin : ∀ (c : S) (m : Str → Option Value) (x y : Int) (t u : Tok) (n : Nat) (h : Heap) (tk : Nat), 0 ≤ x → 0 ≤ y → y < 2147483647 → m = cn c → Fr h₀ env.locals h m → News h₀ env.locals h ((src, srcO x y t u n) :: rest) → Q .next { s with heap := h, toks := tk }) :
    ∀ (vs : List Value) (ds : List Vec) (c : S) (m : Str → Option Value) (x y : Int) (t u : Tok) (n : Nat), Vecs vl vs ds → 0 ≤ x → 0 ≤ y → y < 2147483647 → m = cn c →
      ItemsRest prog w A E h₀ env target body Q s [(I, "list_iterator")] keep (vs.map .val) m ((src, srcO x y t u n) :: rest)
  | [], _, c, m, x, y, t, u, n, _, hx, hy, hy2, hm => fun h tk F N => fin c m x y t u n h tk hx hy hy2 hm F N
  | v :: vs, [], _, _, _, _, _, _, _, V, _, _, _, _ => V.elim
  | v :: vs, d :: ds, c, m, x, y, t, u, n, ⟨⟨a, e, Va⟩, V⟩, hx, hy, hy2, hm => by
    intro v' h tk hv F
    have hv' : v' = v := hv
    rw [hv', e]
    refine fun oI hoI => ?_
    refine fun N => ?_
    have lt : AllLt I ((src, srcO x y t u n) :: rest) := ⟨hs, hI⟩
    refine turn a d c m x y t u n h tk I oI _ Va hx hy hy2 hoI lt hm F N fun c' m' x' y' t' u' n' h' tk' i1 i2 i3 hm' F' N' => ?_
    have hall := allLt_out hI
    exact ⟨h', tk', m', (src, srcO x' y' t' u' n') :: rest, rfl, F', N', fun p hp q hq => by
      rw [List.mem_singleton.mp hq]
      rcases List.mem_cons.mp hp with rfl | hp
      · exact Nat.ne_of_lt hs
      · exact Nat.ne_of_lt (hall p hp), subL_of fun p hp => List.mem_cons_of_mem _ (hk.mem p hp), items_vecs hk hI hs turn fin vs ds c' m' x' y' t' u' n' V i1 i2 i3 hm'⟩

theorem iter_vecs {ax : Addr} {k : Nat} {vs : List Value} {ds : List Vec} {m₀ : Str → Option Value} {x y : Int} {t u : Tok} {n : Nat} (c : S)
    (hh : A.handled = none) (F : Fr h₀ env.locals s.heap m₀) (N : News h₀ env.locals s.heap ((src, srcO x y t u n) :: rest)) (hm : (ax, listOf vs.toArray k) ∈ rest) (V : Vecs vl vs ds) (hx : 0 ≤ x) (hy : 0 ≤ y) (hy2 : y < 2147483647) (hc : m₀ = cn c)
    (turn : TurnV prog w A E h₀ env target body s src rest vl cn)
    (fin : ∀ (c : S) (m : Str → Option Value) (x y : Int) (t u : Tok) (n : Nat) (h : Heap) (tk : Nat), 0 ≤ x → 0 ≤ y → y < 2147483647 → m = cn c → Fr h₀ env.locals h m → News h₀ env.locals h ((src, srcO x y t u n) :: rest) → Q .next { s with heap := h, toks := tk }) :
    wpAny (model prog w) A (pyIter (.ref ax)) (fun it s₂ => TurnsAt prog w A h₀ env target body Q E it s₂) E s := by
  refine iter_listTurns (lo := listOf vs.toArray k) (vs := vs) (n := k) hh F N (List.mem_cons_of_mem _ hm) rfl rfl fun I hI => ?_
  exact items_vecs (keep := [(ax, listOf vs.toArray k)]) (And.intro hm trivial) (allLt_in fun p hp => hI p (List.mem_cons_of_mem _ hp)) (hI _ List.mem_cons_self) turn fin vs ds c m₀ x y t u n V hx hy hy2 hc
end
theorem upd_same {k : Str} {v o : Option Value} {f : Str → Option Value} : (fun z => if z = k then v else (if z = k then o else f z)) = fun z => if z = k then v else f z := by
  funext z; by_cases h : z = k <;> simp [h]
theorem upd_swap {k1 k2 : Str} (hne : k1 ≠ k2) {v o a : Option Value} {f : Str → Option Value} : (fun z => if z = k1 then v else if z = k2 then o else if z = k1 then a else f z) = fun z => if z = k2 then o else if z = k1 then v else f z := by
  funext z
  by_cases h : z = k1
  · subst h; simp [hne]
  · simp [h]
theorem upd_id {k1 k2 : Str} {f : Str → Option Value} : f = fun z => if z = k2 then f k2 else if z = k1 then f k1 else f z := by
  funext z
  by_cases h : z = k2
  · simp [h]
  · by_cases h' : z = k1
    · subst h'; simp [h]
    · simp [h, h']
  

end
section
open PySem PySem.W PyProof.Rows PySem.Spec PySem.Calls
open PyProof.Rows.LCg
theorem pick_rng : ∀ n : Fin 7, sliceRange (sliceBounds none (some 3) none n).1 (sliceBounds none (some 3) none n).2.1 (sliceBounds none (some 3) none n).2.2 = List.range (min n 3) := by decide +kernel
theorem pick_three {ys : List Value} (h : ys.length ≤ 6) : (slicePick ys.toArray none (some 3) none).toList = ys.take 3 := by
  have e := pick_rng ⟨ys.toArray.size, by rw [List.size_toArray]; omega⟩
  unfold slicePick
  rw [e]
  match ys, h with
  | [], _ => rfl
  | [_], _ => rfl
  | [_, _], _ => rfl
  | [_, _, _], _ => rfl
  | [_, _, _, _], _ => rfl
  | [_, _, _, _, _], _ => rfl
  | [_, _, _, _, _, _], _ => rfl
  | _ :: _ :: _ :: _ :: _ :: _ :: _ :: _, h => exact absurd h (by simp only [List.length_cons]; omega)
section
variable {prog : Program} {w : World} {A : Around} {E : Value → Shared → Prop} {s : Shared} {h₀ : Heap} {L l : Addr} {m : Str → Option Value} {news : List (Addr × Obj)} {value slice : PySem.Expr} {ys : List Value} {u : Tok} {Q : Value → Shared → Prop}
theorem slice_three (F : Fr h₀ L s.heap m) (N : News h₀ L s.heap news) (hm : (l, lst ys) ∈ news) (h6 : ys.length ≤ 6)
    (h : ∀ D h', Fr h₀ L h' m → News h₀ L h' ((D, listOf (ys.take 3).toArray 0) :: news) → (∀ p ∈ news, p.1 < D) → Q (.ref D) { s with heap := h' })
    (hs : subscripted slice false (.ref l) (.ref s.heap.objs.size) = operate [.ref s.heap.objs.size, .ref l] (getItem (.ref l) (.ref s.heap.objs.size))) (ht : ∀ r, letTemporaryGo value (.ref l) r = pure ()) :
    wpAny (model prog w) A (subscriptTail value slice (.ref l) (.ref s.heap.objs.size)) Q E { s with heap := s.heap.push { cls := .type "slice", data := .fields #[.none, .int 3 u, .none] } } :=
  kmk_slice_lit (its := ys.toArray) F N ⟨_, (N _ hm).1, rfl, _, rfl⟩ .none (.int _ _) (pick_three h6) h hs ht (by rw [List.size_toArray]; exact Nat.le_trans h6 (Nat.le_of_ble_eq_true rfl))
end

end
section
open PySem PySem.W PyProof.Rows PySem.Spec PySem.Calls
open PyProof.Rows.LCg
abbrev outerC (k1 k2 : Str) (f : Str → Option Value) (c : Option Value × Option Value) : Str → Option Value := fun z => if z = k2 then c.1 else if z = k1 then c.2 else f z
abbrev innerC (k1 k2 : Str) (f : Str → Option Value) (v : Option Value) (c : Option Value) : Str → Option Value := fun z => if z = k2 then c else if z = k1 then v else f z
section
variable {prog : Program} {w : World} {A : Around} {E : Value → Shared → Prop} {s : Shared} {env : Env} {h₀ : Heap} {target : PySem.Expr} {body : List Stmt} {Q : Flow → Shared → Prop} {src : Addr} {vl news : List (Addr × Obj)} {f : Str → Option Value}
  {ax : Addr} {k : Nat} {vs : List Value} {ds : List Vec} {x y : Int} {t u : Tok} {n : Nat}
theorem iter_outer (k1 k2 : Str) (rest : List (Addr × Obj)) (hh : A.handled = none) (F : Fr h₀ env.locals s.heap f) (N : News h₀ env.locals s.heap news) (sub : ∀ p ∈ (src, srcO x y t u n) :: rest, p ∈ news) (hm : (ax, listOf vs.toArray k) ∈ rest) (V : Vecs vl vs ds) (hx : 0 ≤ x) (hy : 0 ≤ y) (hy2 : y < 2147483647)
    (turn : TurnV prog w A E h₀ env target body s src rest vl (outerC k1 k2 f))
    (fin : ∀ (c : Option Value × Option Value) (m : Str → Option Value) (x y : Int) (t u : Tok) (n : Nat) (h : Heap) (tk : Nat), 0 ≤ x → 0 ≤ y → y < 2147483647 → m = outerC k1 k2 f c → Fr h₀ env.locals h m → News h₀ env.locals h ((src, srcO x y t u n) :: rest) → Q .next { s with heap := h, toks := tk }) :
    wpAny (model prog w) A (pyIter (.ref ax)) (fun it s₂ => TurnsAt prog w A h₀ env target body Q E it s₂) E s :=
  iter_vecs (f k2, f k1) hh F (fun p hp => N p (sub p hp)) hm V hx hy hy2 upd_id turn fin
theorem iter_inner (k1 k2 : Str) (hne : k1 ≠ k2) {v : Option Value} {c₀ : Option Value × Option Value} (rest : List (Addr × Obj)) (hh : A.handled = none) (F : Fr h₀ env.locals s.heap (fun z => if z = k1 then v else outerC k1 k2 f c₀ z)) (N : News h₀ env.locals s.heap news) (sub : ∀ p ∈ (src, srcO x y t u n) :: rest, p ∈ news) (hm : (ax, listOf vs.toArray k) ∈ rest) (V : Vecs vl vs ds) (hx : 0 ≤ x) (hy : 0 ≤ y) (hy2 : y < 2147483647)
    (turn : TurnV prog w A E h₀ env target body s src rest vl (innerC k1 k2 f v))
    (fin : ∀ (c : Option Value) (m : Str → Option Value) (x y : Int) (t u : Tok) (n : Nat) (h : Heap) (tk : Nat), 0 ≤ x → 0 ≤ y → y < 2147483647 → m = innerC k1 k2 f v c → Fr h₀ env.locals h m → News h₀ env.locals h ((src, srcO x y t u n) :: rest) → Q .next { s with heap := h, toks := tk }) :
    wpAny (model prog w) A (pyIter (.ref ax)) (fun it s₂ => TurnsAt prog w A h₀ env target body Q E it s₂) E s :=
  iter_vecs c₀.1 hh F (fun p hp => N p (sub p hp)) hm V hx hy hy2 (upd_swap hne) turn fin
end

end
section
open PySem PySem.W PyProof.Rows PySem.Spec PySem.Calls
set_option maxRecDepth 100000
set_option maxHeartbeats 8000000
theorem pid_lt {x d D : Addr} {news : List (Addr × Obj)} (h : @LT.lt Nat _ x D ∧ @LT.lt Nat _ d D ∧ AllLt D news) : ∀ p ∈ news, p.1 < D := fun p hp => allLt_out h.2.2 p hp
theorem pid_d {x d D : Addr} {news : List (Addr × Obj)} (h : @LT.lt Nat _ x D ∧ @LT.lt Nat _ d D ∧ AllLt D news) : D ≠ d := Nat.ne_of_gt h.2.1
theorem pid_x {x d D : Addr} {news : List (Addr × Obj)} (h : @LT.lt Nat _ x D ∧ @LT.lt Nat _ d D ∧ AllLt D news) : D ≠ x := Nat.ne_of_gt h.1

section
variable {w : World} {mean : ExcName → Option Value} {mg mb : Str → Option Value} {dp un : Nat} {gd : Option (List Code)} {cn : Str} {cs : Scope} {a : Addr} {ccd : Value} {cl : List (Str × Addr)} {outer : List Env} {A₀ : Around} {base h₀ : Heap} {L : Addr} {m : Str → Option Value} {s : Shared} {Q E : Value → Shared → Prop}
  {news tl : List (Addr × Obj)} {src : Addr} {x y : Int} {t u tt : Tok} {n : Nat}
  {num pri c : Int} {tn tp tc : Tok}
abbrev rowEs (w : World) (k0 k1 k2 k3 k4 : Tok) (num : Int) (tn : Tok) (pri : Int) (tp : Tok) (c : Int) (tc : Tok) : List DictEntry :=
  [⟨PyData.keyHash w.params "number", .str "number" k0, .int num tn⟩, ⟨PyData.keyHash w.params "priority", .str "priority" k1, .int pri tp⟩, ⟨PyData.keyHash w.params "cost", .str "cost" k2, .int c tc⟩, ⟨PyData.keyHash w.params "is_edge", .str "is_edge" k3, .bool false⟩, ⟨PyData.keyHash w.params "is_straight", .str "is_straight" k4, .bool true⟩]
abbrev newEs (w : World) (k0 k1 k2 k3 k4 k5 k6 k7 k8 k9 : Tok) (num : Int) (tn : Tok) (pid : Addr) (c : Int) (tc : Tok) (ts : Tok) : List DictEntry :=
  [⟨PyData.keyHash w.params "number", .str "number" k0, .int num tn⟩, ⟨PyData.keyHash w.params "port_id", .str "port_id" k1, .ref pid⟩, ⟨PyData.keyHash w.params "cost", .str "cost" k2, .int c tc⟩, ⟨PyData.keyHash w.params "state", .str "state" k3, .str "disabled" ts⟩,
   ⟨PyData.keyHash w.params "vector", .str "vector" k4, .none⟩, ⟨PyData.keyHash w.params "owes_ack", .str "owes_ack" k5, .bool false⟩, ⟨PyData.keyHash w.params "is_pending", .str "is_pending" k6, .bool false⟩, ⟨PyData.keyHash w.params "age", .str "age" k7, .none⟩,
   ⟨PyData.keyHash w.params "delay", .str "delay" k8, .none⟩, ⟨PyData.keyHash w.params "hold", .str "hold" k9, .none⟩]
theorem row_ok (B : Below A₀ base outer h₀) (F : Fr h₀ L s.heap m) (X : (hd.heap_39 w.params).In h₀) (N : News h₀ L s.heap news) (T : Top MineHead.VW (looseW MineHead.VW []) mean mg mb h₀) (hk : cs.kind = .function) (hdp : dp + 2 < recursionLimit) (hu : un + 210 < cLine)
    (ret : ∀ (x' d' : Addr) (k0 k1 k2 k3 k4 : Tok) (h' : Heap) (tk' : Nat), (∀ p ∈ news, p.1 < d') → (∀ p ∈ news, p.1 < x') → x' ≠ d' → Fr h₀ L h' m → News h₀ L h' ((x', instObj 190 d') :: (d', dictOf (rowEs w k0 k1 k2 k3 k4 num tn pri tp c tc) 5) :: news) → Q (.ref x') { s with heap := h', toks := tk' }) :
    wpAny (model PySem.Challenge.rw_pb0537_01.row.prog w) (ktrTop dp un gd cn cs L a ccd cl outer) (call (.ref 190) [.int num tn, .int pri tp, .int c tc]) Q E s := by
  revert X; k_fill; intro X
  (first | (k_dflt (refine' call_cls ?k1 ?k2 ?k3 ?k4 ?k5 ?k6 ?_; (case k1 => k_asm); (case k2 => k_asm); (case k3 => k_asm); (case k4 => k_is); (case k5 => k_is); (case k6 => k_is); k_whole)))
  intro x' d' h' F' N' l1 l2
  have n1 : ∀ p ∈ news, p.1 ≠ d' := fun p hp => Nat.ne_of_lt (l1 p hp)
  have n2 : ∀ p ∈ news, p.1 ≠ x' := fun p hp => Nat.ne_of_lt (Nat.lt_trans (l1 p hp) l2)
  have n3 : d' ≠ x' := Nat.ne_of_lt l2
  have n4 : x' ≠ d' := Nat.ne_of_gt l2
  k_dflt (refine' code_def ?k1 ?k2 ?k3 ?k4 ?k5 ?kA ?kF ?kK ?k6 ?k7 ?k8 ?k9 ?kB ?_ ?c2 ?c3 ?c4 ?c5; (case kA => exact rfl); (case kF => exact rfl); (case kK => assumption); (case k1 => k_asm); (case k2 => k_asm); (case k3 => k_asm); (case k4 => k_asm); (case k5 => k_asm); (case k6 => k_is); (case k7 => k_is); (case k8 => ktr_room); (case k9 => first | exact BindsTo.of_eq rfl | exact binds_K (by k_in) rfl (by k_is) rfl rfl rfl); (case c5 => decide); (case kB => exact locs rfl); (case c2 => exact rfl); (case c3 => exact rfl); (case c4 => exact rfl); k_whole)
  intro g' L' h' FG' F' N' B' X' T'
  (try dsimp only)
  (try k_lift B')
  (try k_fold)
  k_steps
  exact ret _ _ _ _ _ _ _ _ _ l1 (fun p hp => Nat.lt_trans (l1 p hp) l2) n4 (by with_reducible assumption) (cb_drop (by with_reducible assumption) (by kqd_sub))
theorem port_ok {row rd : Addr} {k0 k1 k2 k3 k4 : Tok} (B : Below A₀ base outer h₀) (F : Fr h₀ L s.heap m) (X : (hd.heap_39 w.params).In h₀) (N : News h₀ L s.heap news) (T : Top MineHead.VW (looseW MineHead.VW []) mean mg mb h₀) (hk : cs.kind = .function) (m1 : (row, instObj 190 rd) ∈ news) (m2 : (rd, dictOf (rowEs w k0 k1 k2 k3 k4 num tn pri tp c tc) 5) ∈ news) (hdp : dp + 2 < recursionLimit) (hu : un + 210 < cLine)
    (ret : ∀ (x' d' pid : Addr) (k0 k1 k2 k3 k4 k5 k6 k7 k8 k9 ts tp' tn' tn'' tc' : Tok) (h' : Heap) (tk' : Nat), (∀ p ∈ news, p.1 < d') → (∀ p ∈ news, p.1 < x') → (∀ p ∈ news, p.1 < pid) → x' ≠ d' → pid ≠ d' → pid ≠ x' → Fr h₀ L h' m →
      News h₀ L h' ((pid, tupO [.int pri tp', .int num tn']) :: (x', instObj 147 d') :: (d', dictOf (newEs w k0 k1 k2 k3 k4 k5 k6 k7 k8 k9 num tn'' pid c tc' ts) 10) :: news) → Q (.ref x') { s with heap := h', toks := tk' }) :
    wpAny (model PySem.Challenge.rw_pb0537_01.row.prog w) (ktrTop dp un gd cn cs L a ccd cl outer) (call (.ref 147) [.ref row]) Q E s := by
  revert X; k_fill; intro X
  (first | (k_dflt (refine' call_cls ?k1 ?k2 ?k3 ?k4 ?k5 ?k6 ?_; (case k1 => k_asm); (case k2 => k_asm); (case k3 => k_asm); (case k4 => k_is); (case k5 => k_is); (case k6 => k_is); k_whole)))
  intro x' d' h' F' N' l1 l2
  have n1 : ∀ p ∈ news, p.1 ≠ d' := fun p hp => Nat.ne_of_lt (l1 p hp)
  have n2 : ∀ p ∈ news, p.1 ≠ x' := fun p hp => Nat.ne_of_lt (Nat.lt_trans (l1 p hp) l2)
  have n3 : d' ≠ x' := Nat.ne_of_lt l2
  have n4 : x' ≠ d' := Nat.ne_of_gt l2
  k_dflt (refine' code_def ?k1 ?k2 ?k3 ?k4 ?k5 ?kA ?kF ?kK ?k6 ?k7 ?k8 ?k9 ?kB ?_ ?c2 ?c3 ?c4 ?c5; (case kA => exact rfl); (case kF => exact rfl); (case kK => assumption); (case k1 => k_asm); (case k2 => k_asm); (case k3 => k_asm); (case k4 => k_asm); (case k5 => k_asm); (case k6 => k_is); (case k7 => k_is); (case k8 => ktr_room); (case k9 => first | exact BindsTo.of_eq rfl | exact binds_K (by k_in) rfl (by k_is) rfl rfl rfl); (case c5 => decide); (case kB => exact locs rfl); (case c2 => exact rfl); (case c3 => exact rfl); (case c4 => exact rfl); k_whole)
  intro g' L' h' FG' F' N' B' X' T'
  (try dsimp only)
  (try k_lift B')
  (try k_fold)
  k_steps
  exact ret _ _ _ _ _ _ _ _ _ _ _ _ _ _ _ _ _ _ _ _ l1 (fun p hp => Nat.lt_trans (l1 p hp) l2) (pid_lt (by with_reducible assumption)) n4 (pid_d (by with_reducible assumption)) (pid_x (by with_reducible assumption)) (by with_reducible assumption) (cb_drop (by with_reducible assumption) (by kqd_sub))
theorem begin_body {xp dx vb pid : Addr} {k0 k1 k2 k3 k4 k5 k6 k7 k8 k9 ts0 : Tok} {st : Str} {ts : Tok} (B : Below A₀ base outer h₀) (F : Fr h₀ L s.heap m) (X : (hd.heap_39 w.params).In h₀) (N : News h₀ L s.heap ((dx, dictOf (newEs w k0 k1 k2 k3 k4 k5 k6 k7 k8 k9 num tn pid c tc ts0) 10) :: tl)) (T : Top MineHead.VW (looseW MineHead.VW []) mean mg mb h₀) (hk : cs.kind = .function) (hn : ∀ p ∈ tl, p.1 ≠ dx) (m1 : (xp, instObj 147 dx) ∈ tl) (hdp : dp + 2 < recursionLimit) (hu : un + 210 < cLine)
    (ret : ∀ (k3 k4 k5 k6 k7 k8 k9 : Tok) (h' : Heap) (tk' : Nat), Fr h₀ L h' m → News h₀ L h' ((dx, dictOf (portEs w k0 k1 k2 k3 k4 k5 k6 k7 k8 k9 num tn pid c tc vb st ts) 10) :: tl) → Q .none { s with heap := h', toks := tk' }) :
    wpAny (model PySem.Challenge.rw_pb0537_01.row.prog w) (ktrTop dp un gd cn cs L a ccd cl outer) (call (.ref 137) [.ref xp, .str st ts, .ref vb]) Q E s := by
  revert X; k_fill; intro X
  refine wpAny_call ?_
  k_dflt cell_enter
  k_steps
  exact ret _ _ _ _ _ _ _ _ _ (by with_reducible assumption) (cb_drop (by with_reducible assumption) (by kqd_sub))
theorem begin_ok {xp dx vb pid : Addr} {k0 k1 k2 k3 k4 k5 k6 k7 k8 k9 ts0 : Tok} {st : Str} {ts : Tok} (B : Below A₀ base outer h₀) (F : Fr h₀ L s.heap m) (X : (hd.heap_39 w.params).In h₀) (N : News h₀ L s.heap news) (T : Top MineHead.VW (looseW MineHead.VW []) mean mg mb h₀) (hk : cs.kind = .function) {g : Obj → List (Addr × Obj)} (U : UpdF dx (dictOf (newEs w k0 k1 k2 k3 k4 k5 k6 k7 k8 k9 num tn pid c tc ts0) 10) news g) (m1 : (xp, instObj 147 dx) ∈ news) (hx : xp ≠ dx) (hdp : dp + 2 < recursionLimit) (hu : un + 210 < cLine)
    (ret : ∀ (k3 k4 k5 k6 k7 k8 k9 : Tok) (h' : Heap) (tk' : Nat), Fr h₀ L h' m → News h₀ L h' (g (dictOf (portEs w k0 k1 k2 k3 k4 k5 k6 k7 k8 k9 num tn pid c tc vb st ts) 10)) → Q .none { s with heap := h', toks := tk' }) :
    wpAny (model PySem.Challenge.rw_pb0537_01.row.prog w) (ktrTop dp un gd cn cs L a ccd cl outer) (call (.ref 137) [.ref xp, .str st ts, .ref vb]) Q E s := by
  obtain ⟨tl, hn, e1, e2⟩ := updF_perm U
  exact begin_body B F X (fun p hp => N p ((e1 p).mpr hp)) T hk hn (mem_tl e1 m1 hx) hdp hu fun k3 k4 k5 k6 k7 k8 k9 h' tk' F' N' => ret k3 k4 k5 k6 k7 k8 k9 h' tk' F' fun p hp => N' p ((e2 _ p).mp hp)
end

end
section
open PySem PySem.W PyProof.Rows PySem.Spec PySem.Calls
set_option maxRecDepth 100000
set_option maxHeartbeats 8000000

theorem lines16 : True := by
  k_with_none
  k_with "k_ne" => (first | with_reducible assumption | exact Ne.symm (by with_reducible assumption) | exact ne_gt (by with_reducible assumption) | exact ne_lt (by with_reducible assumption) | exact ne_gt (cj0 (by with_reducible assumption)) | exact ne_lt (cj0 (by with_reducible assumption)) | exact ne_gt (cj1 (by with_reducible assumption)) | exact ne_lt (cj1 (by with_reducible assumption)) | exact ne_gt (cj2 (by with_reducible assumption)) | exact ne_lt (cj2 (by with_reducible assumption)) | exact ne_gt (cj3 (by with_reducible assumption)) | exact ne_lt (cj3 (by with_reducible assumption)) | exact ne_gt (cj4 (by with_reducible assumption)) | exact ne_lt (cj4 (by with_reducible assumption)) | exact ne_gt (cj5 (by with_reducible assumption)) | exact ne_lt (cj5 (by with_reducible assumption)) | exact ne_gt (cj6 (by with_reducible assumption)) | exact ne_lt (cj6 (by with_reducible assumption)) | exact ne_gt (cj7 (by with_reducible assumption)) | exact ne_lt (cj7 (by with_reducible assumption)) | exact ne_gt (cj8 (by with_reducible assumption)) | exact ne_lt (cj8 (by with_reducible assumption)) | exact ne_gt (cj9 (by with_reducible assumption)) | exact ne_lt (cj9 (by with_reducible assumption)) | exact ne_gt (cj10 (by with_reducible assumption)) | exact ne_lt (cj10 (by with_reducible assumption)) | exact ne_gt (cj11 (by with_reducible assumption)) | exact ne_lt (cj11 (by with_reducible assumption)) | exact ne_gt (cj12 (by with_reducible assumption)) | exact ne_lt (cj12 (by with_reducible assumption)) | exact ne_gt (cj13 (by with_reducible assumption)) | exact ne_lt (cj13 (by with_reducible assumption)) | exact ne_gt (cj14 (by with_reducible assumption)) | exact ne_lt (cj14 (by with_reducible assumption)) | exact ne_gt (cj15 (by with_reducible assumption)) | exact ne_lt (cj15 (by with_reducible assumption)) | exact ne_gt (cj16 (by with_reducible assumption)) | exact ne_lt (cj16 (by with_reducible assumption)) | exact ne_gt (cj17 (by with_reducible assumption)) | exact ne_lt (cj17 (by with_reducible assumption)) | exact ne_gt (cj18 (by with_reducible assumption)) | exact ne_lt (cj18 (by with_reducible assumption)) | exact ne_gt (cj19 (by with_reducible assumption)) | exact ne_lt (cj19 (by with_reducible assumption)) | exact ne_gt (cj20 (by with_reducible assumption)) | exact ne_lt (cj20 (by with_reducible assumption)) | exact ne_gt (cj21 (by with_reducible assumption)) | exact ne_lt (cj21 (by with_reducible assumption)) | exact ne_gt (cj22 (by with_reducible assumption)) | exact ne_lt (cj22 (by with_reducible assumption)) | exact ne_gt (cj23 (by with_reducible assumption)) | exact ne_lt (cj23 (by with_reducible assumption)) | exact ne_gt (cj24 (by with_reducible assumption)) | exact ne_lt (cj24 (by with_reducible assumption)) | exact ne_gt (cj25 (by with_reducible assumption)) | exact ne_lt (cj25 (by with_reducible assumption)) | exact ne_gt (ck1 (by with_reducible assumption)) | exact ne_lt (ck1 (by with_reducible assumption)) | exact ne_gt (ck2 (by with_reducible assumption)) | exact ne_lt (ck2 (by with_reducible assumption)) | exact ne_gt (ck3 (by with_reducible assumption)) | exact ne_lt (ck3 (by with_reducible assumption)) | exact ne_gt (ck4 (by with_reducible assumption)) | exact ne_lt (ck4 (by with_reducible assumption)) | exact ne_gt (ck5 (by with_reducible assumption)) | exact ne_lt (ck5 (by with_reducible assumption)) | exact ne_gt (ck6 (by with_reducible assumption)) | exact ne_lt (ck6 (by with_reducible assumption)) | exact ne_gt (ck7 (by with_reducible assumption)) | exact ne_lt (ck7 (by with_reducible assumption)) | exact ne_gt (ck8 (by with_reducible assumption)) | exact ne_lt (ck8 (by with_reducible assumption)) | exact ne_gt (ck9 (by with_reducible assumption)) | exact ne_lt (ck9 (by with_reducible assumption)) | exact ne_gt (ck10 (by with_reducible assumption)) | exact ne_lt (ck10 (by with_reducible assumption)) | exact ne_gt (ck11 (by with_reducible assumption)) | exact ne_lt (ck11 (by with_reducible assumption)) | exact ne_gt (ck12 (by with_reducible assumption)) | exact ne_lt (ck12 (by with_reducible assumption)) | exact ne_gt (ck13 (by with_reducible assumption)) | exact ne_lt (ck13 (by with_reducible assumption)) | exact ne_gt (ck14 (by with_reducible assumption)) | exact ne_lt (ck14 (by with_reducible assumption)) | exact ne_gt (ck15 (by with_reducible assumption)) | exact ne_lt (ck15 (by with_reducible assumption)) | exact ne_gt (ck16 (by with_reducible assumption)) | exact ne_lt (ck16 (by with_reducible assumption)) | exact ne_gt (ck17 (by with_reducible assumption)) | exact ne_lt (ck17 (by with_reducible assumption)) | exact ne_gt (ck18 (by with_reducible assumption)) | exact ne_lt (ck18 (by with_reducible assumption)) | exact ne_gt (ck19 (by with_reducible assumption)) | exact ne_lt (ck19 (by with_reducible assumption)) | exact ne_gt (ck20 (by with_reducible assumption)) | exact ne_lt (ck20 (by with_reducible assumption)) | exact ne_gt (ck21 (by with_reducible assumption)) | exact ne_lt (ck21 (by with_reducible assumption)) | exact ne_gt (ck22 (by with_reducible assumption)) | exact ne_lt (ck22 (by with_reducible assumption)) | exact ne_gt (ck23 (by with_reducible assumption)) | exact ne_lt (ck23 (by with_reducible assumption)) | exact ne_gt (ck24 (by with_reducible assumption)) | exact ne_lt (ck24 (by with_reducible assumption)) | exact ne_gt (ck25 (by with_reducible assumption)) | exact ne_lt (ck25 (by with_reducible assumption)))
  k_with "ktr_room" => (first | exact room2 (by with_reducible assumption) (by decide) | exact room1 (by with_reducible assumption) (by decide) | exact room0 (by with_reducible assumption) | exact room3 (by with_reducible assumption) (by decide))
  k_with "ktr_units" => (first | exact room2 (by with_reducible assumption) (by decide) | exact room1 (by with_reducible assumption) (by decide) | exact room0 (by with_reducible assumption) | exact room3 (by with_reducible assumption) (by decide))
  k_with "ke_room" => (first | exact room2 (by with_reducible assumption) (by decide) | exact room1 (by with_reducible assumption) (by decide) | exact room0 (by with_reducible assumption) | exact room3 (by with_reducible assumption) (by decide))
  k_with "compareOp Lt ref ref" => (k_here; (with_reducible show wpAny _ _ (compareOp CmpOp.Lt (Value.ref _) (Value.ref _)) _ _ _); k_dflt (refine lt_dataT (by ked_read) (by ked_read) (by ked_shaped) (by ked_shaped) (by ke_room) (by rfl) ?_); (try simp only [lexT_vec, lexT_head, lexT_tail, lexT_pair]))
  k_with "compareOp LtE ref ref" => (k_here; (with_reducible show wpAny _ _ (compareOp CmpOp.LtE (Value.ref _) (Value.ref _)) _ _ _); k_dflt (refine le_dataT (by ked_read) (by ked_read) (by ked_shaped) (by ked_shaped) (by ke_room) (by rfl) ?_); (try simp only [lexT_vec, lexT_head, lexT_tail, lexT_pair]))
  k_with "compareOp Eq ref ref" => (k_here; (with_reducible show wpAny _ _ (compareOp CmpOp.Eq (Value.ref _) (Value.ref _)) _ _ _); k_dflt (refine eq_dataH (by ked_read) (by ked_read) (by ked_shaped) (by ked_shaped) (by ke_room) ?_); (try simp only [eqv_vec, eqv_head, eqv_pair]))
  k_with "compareOp NotEq ref ref" => (k_here; (with_reducible show wpAny _ _ (compareOp CmpOp.NotEq (Value.ref _) (Value.ref _)) _ _ _); k_dflt (refine ne_dataH (by ked_read) (by ked_read) (by ked_shaped) (by ked_shaped) (by ke_room) ?_); (try simp only [eqv_vec, eqv_head, eqv_pair]))
  k_with "eval Call" => (k_here; k_dflt (refine Call_ ?_))
  k_with "subscriptTail" => (k_here; (with_reducible show wpAny _ _ (subscriptTail _ (PySem.Expr.Slice none (some _) none _) (Value.ref _) (Value.ref _)) _ _ _); k_dflt (refine' slice_upto3 (by (k_asm)) (by (k_asm)) (by (k_mem)) ?_ (by (with_unfolding_all rfl)) (by ((intro _; with_unfolding_all rfl))); k_whole); intro D' h' F' N' l1; (try k_lt l1); (try k_sweep))
  k_with "subscriptTail" => (k_here; (with_reducible show wpAny _ _ (subscriptTail _ (PySem.Expr.Slice (some _) none none _) (Value.ref _) (Value.ref _)) _ _ _); k_dflt (refine' slice_from1 (by (k_asm)) (by (k_asm)) (by (k_mem)) ?_ (by (with_unfolding_all rfl)) (by ((intro _; with_unfolding_all rfl))); k_whole); intro D' h' F' N' l1; (try k_lt l1); (try k_sweep))
  k_with "call ref" => (k_here; k_dflt (refine' one_pair (by (k_asm)) (by (k_asm)) (by (k_asm)) (by (k_asm)) (by (k_asm)) (by (first | exact rfl | assumption)) (by (k_updF)) (by (assumption)) (by (assumption)) (by (assumption)) (by (k_mem)) (by (k_ne)) (by (exact Nat.le_of_ble_eq_true rfl)) (by (exact Nat.le_of_ble_eq_true rfl)) (by ((repeat (first | exact pairs_nil | refine pairs_cons (by k_mem) (by first | with_reducible assumption | k_ne) ?_))); (fail_if_success exfalso)) (by (ktr_room)) (by (ktr_units)) ?_; intro b' p' q' tp' tq' x' y' t' u' n' h' tk' hb' hv' hx' hy' hy2' F' N'; (try dsimp only at N'); (try replace hb' := neN hb'); (try k_sweep); (try dsimp only); (try k_fold)))
  k_with "call ref" => (k_here; k_dflt (refine' one_int (fun _ => True) (by (k_asm)) (by (k_asm)) (by (k_asm)) (by (k_asm)) (by (k_asm)) (by (first | exact rfl | assumption)) (by (k_updF)) (by (assumption)) (by (assumption)) (by (assumption)) (by (k_mem)) (by (k_ne)) (by (exact Nat.le_of_ble_eq_true rfl)) (by (exact Nat.le_of_ble_eq_true rfl)) (by ((repeat (first | exact any_nil | refine any_cons ?_))); (fail_if_success exfalso)) (by (ktr_room)) (by (ktr_units)) ?_; intro v' tv' x' y' t' u' n' h' tk' hv' hx' hy' hy2' F' N'; (try dsimp only at N'); (try k_sweep); (try dsimp only); (try k_fold)))
  k_with "call ref" => (k_here; k_dflt (refine' bridge_ok (by (k_asm)) (by (k_asm)) (by (k_asm)) (by (k_asm)) (by (k_asm)) (by (first | exact rfl | assumption)) (by (k_updF)) (by (assumption)) (by (assumption)) (by (assumption))  (by (ktr_room)) (by (ktr_units)) ?_; intro b' p' q' tp' tq' x' y' t' u' n' h' tk' hb' hx' hy' hy2' F' N'; (try dsimp only at N'); (try replace hb' := neN hb'); (try k_sweep); (try dsimp only); (try k_fold)))
  k_with "call ref" => (k_here; k_dflt (refine' take_ok (by (k_asm)) (by (k_asm)) (by (k_asm)) (by (k_asm)) (by (k_asm)) (by (first | exact rfl | assumption)) (by (k_updF)) (by (assumption)) (by (assumption)) (by (assumption)) (by (first | decide | omega)) (by (first | decide | omega)) (by (ktr_room)) (by (ktr_units)) ?_; intro v' tv' x' y' t' u' n' h' tk' hx' hy' hy2' hv' hv2' F' N'; (try dsimp only at N'); (try k_sweep); (try dsimp only); (try k_fold)))
  k_with "call ref" => (k_here; k_dflt (refine' parts_ok (by (k_asm)) (by (k_asm)) (by (k_asm)) (by (k_asm)) (by (k_asm)) (by (first | exact rfl | assumption)) (by (first | assumption | exact VecIn.sub (by assumption) (by kqd_sub))) (by (ktr_room)) (by (ktr_units)) ?_; intro l' t0' t1' t2' t3' t4' t5' t6' h' tk' l1 F' N'; (try dsimp only at N'); (try k_lt l1); (try k_sweep); (try dsimp only); (try k_fold)))
  k_with "call ref" => (k_here; k_dflt (refine' atL_ok (by (k_asm)) (by (k_asm)) (by (k_asm)) (by (k_asm)) (by (k_asm)) (by (first | exact rfl | assumption)) (by (k_mem)) (by (k_mem)) (by (first | assumption | repeat constructor); (fail_if_success exfalso)) (by (first | assumption | repeat constructor); (fail_if_success exfalso)) (by (first | assumption | rfl)) (by (ktr_room)) (by (ktr_units)) ?_; intro _ h' tk' F' N'; (try dsimp only at N'); (try k_sweep); (try dsimp only); (try k_fold)))
  k_with "call ref" => (k_here; k_dflt (refine' atT_ok (by (k_asm)) (by (k_asm)) (by (k_asm)) (by (k_asm)) (by (k_asm)) (by (first | exact rfl | assumption)) (by (k_mem)) (by (k_mem)) (by (first | assumption | repeat constructor); (fail_if_success exfalso)) (by (first | assumption | repeat constructor); (fail_if_success exfalso)) (by (first | assumption | rfl)) (by (ktr_room)) (by (ktr_units)) ?_; intro _ h' tk' F' N'; (try dsimp only at N'); (try k_sweep); (try dsimp only); (try k_fold)))
  k_with "call ref" => (k_here; k_dflt (refine' super_ok (by (k_asm)) (by (k_asm)) (by (k_asm)) (by (k_asm)) (by (k_asm)) (by (first | exact rfl | assumption)) (by (first | assumption | exact VecIn.sub (by assumption) (by kqd_sub))) (by (first | assumption | exact VecIn.sub (by assumption) (by kqd_sub))) (by (k_mem)) (by (k_mem)) (by (k_mem)) (by (ktr_room)) (by (ktr_units)) ?_; intro _ h' tk' F' N'; (try dsimp only at N'); (try k_sweep); (try dsimp only); (try k_fold)))
  k_with "call ref" => (k_here; k_dflt (refine' ours_ok (by (k_asm)) (by (k_asm)) (by (k_asm)) (by (k_asm)) (by (k_asm)) (by (first | exact rfl | assumption)) (by (first | assumption | exact VecIn.sub (by assumption) (by kqd_sub))) (by (k_mem)) (by (k_mem)) (by (k_mem)) (by (k_mem)) (by (k_mem)) (by (ktr_room)) (by (ktr_units)) ?_; intro _ h' tk' F' N'; (try dsimp only at N'); (try k_sweep); (try dsimp only); (try k_fold)))
  k_with "subscriptTail Name Constant ref int" => (k_here; (with_reducible show wpAny _ _ (subscriptTail _ _ (Value.ref _) (Value.int _ _)) _ _ _); k_dflt (refine' item_gen (by (k_asm)) (by (k_mem)) (by (first | exact Or.inl rfl | exact Or.inr ⟨rfl, fun _ => by with_unfolding_all rfl⟩)) (by (exact rfl)) (by (decide)) (by (decide)) (by (exact rfl)) ?_; k_whole))
  k_with "subscriptTail Name" => (k_here; (with_reducible show wpAny _ _ (subscriptTail _ _ (Value.ref _) (Value.int _ _)) _ _ _); k_dflt (refine' item_gen (by (k_asm)) (by (k_mem)) (by (first | exact Or.inl rfl | exact Or.inr ⟨rfl, fun _ => by with_unfolding_all rfl⟩)) (by (exact rfl)) (by (decide)) (by (decide)) (by (exact rfl)) ?_; k_whole))
  k_with "subscriptTail" => (k_here; (with_reducible show wpAny _ _ (subscriptTail _ _ (Value.ref _) (Value.int _ _)) _ _ _); k_dflt (refine' item_gen (by (k_asm)) (by (k_mem)) (by (first | exact Or.inl rfl | exact Or.inr ⟨rfl, fun _ => by with_unfolding_all rfl⟩)) (by (exact rfl)) (by (decide)) (by (decide)) (by (exact rfl)) ?_; k_whole))
  k_with "call ref" => (k_here; k_dflt (refine' row_ok (by (k_asm)) (by (k_asm)) (by (k_asm)) (by (k_asm)) (by (k_asm)) (by (first | exact rfl | assumption))  (by (ktr_room)) (by (ktr_units)) ?_; intro x' d' k0' k1' k2' k3' k4' h' tk' la' lb' na' F' N'; (try dsimp only at N'); (try k_lt la'); (try k_lt lb'); (try k_sweep); (try dsimp only); (try k_fold)))
  k_with "call ref" => (k_here; k_dflt (refine' port_ok (by (k_asm)) (by (k_asm)) (by (k_asm)) (by (k_asm)) (by (k_asm)) (by (first | exact rfl | assumption)) (by (k_mem)) (by (k_mem)) (by (ktr_room)) (by (ktr_units)) ?_; intro x' d' p' k0' k1' k2' k3' k4' k5' k6' k7' k8' k9' ts' tp' tn' tm' tc' h' tk' la' lb' lc' na' nb' nc' F' N'; (try dsimp only at N'); (try k_lt la'); (try k_lt lb'); (try k_lt lc'); (try k_sweep); (try dsimp only); (try k_fold)))
  k_with "call ref" => (k_here; k_dflt (refine' begin_ok (by (k_asm)) (by (k_asm)) (by (k_asm)) (by (k_asm)) (by (k_asm)) (by (first | exact rfl | assumption)) (by (k_updF)) (by (k_mem)) (by (k_ne)) (by (ktr_room)) (by (ktr_units)) ?_; intro k3' k4' k5' k6' k7' k8' k9' h' tk' F' N'; (try dsimp only at N'); (try k_sweep); (try dsimp only); (try k_fold)))
  exact True.intro
theorem lexL_ne {l1 l2 : Bool} : ∀ {xs ys : List Int}, ¬ xs = ys → xs.length = ys.length → lexL l1 xs ys = lexL l2 xs ys
  | [], [], h, _ => absurd rfl h
  | [], _ :: _, _, h => nomatch h
  | _ :: _, [], _, h => nomatch h
  | x :: xs, y :: ys, h, hl => by
    simp only [lexL]
    split
    · rename_i e
      exact lexL_ne (fun h' => h (by rw [e, h'])) (by simpa using hl)
    · rfl
theorem old_fin {h₀ : Heap} {L src : Addr} {m : Str → Option Value} {s : Shared} {tl all : List (Addr × Obj)} {Q : Value → Shared → Prop} {z : Bool} {h' : Heap} {tk' : Nat} {x' y' : Int} {t' u' : Tok} {n' : Nat}
    (ret : ∀ (x' y' : Int) (t' u' : Tok) (n' : Nat) (h' : Heap) (tk' : Nat), 0 ≤ x' → 0 ≤ y' → y' < 2147483647 → Fr h₀ L h' m → News h₀ L h' ((src, srcO x' y' t' u' n') :: tl) → Q (.bool true) { s with heap := h', toks := tk' })
    (e : z = true) (N : News h₀ L h' all) (sub : ∀ p ∈ (src, srcO x' y' t' u' n') :: tl, p ∈ all) (h1 : 0 ≤ x') (h2 : 0 ≤ y') (h3 : y' < 2147483647) (F : Fr h₀ L h' m) : Q (.bool z) { s with heap := h', toks := tk' } :=
  e ▸ ret x' y' t' u' n' h' tk' h1 h2 h3 F (fun p hp => N p (sub p hp))
theorem ne_bang {x y : Bool} (h : (x != y) = true) (e : x = y) : False := by subst e; cases x <;> exact absurd h (by decide)
theorem beq_of {x y : Bool} (e : x = y) : (x == y) = true := by subst e; cases x <;> rfl
section
variable {w : World} {mean : ExcName → Option Value} {mg mb : Str → Option Value} {dp un : Nat} {gd : Option (List Code)} {cn : Str} {cs : Scope} {a : Addr} {ccd : Value} {cl : List (Str × Addr)} {outer : List Env} {A₀ : Around} {base h₀ : Heap} {L : Addr} {m : Str → Option Value} {s : Shared} {Q E : Value → Shared → Prop}
  {news tl : List (Addr × Obj)} {src : Addr} {x y : Int} {t u tt : Tok} {n : Nat}
  {va vb : Addr} {d e : Vec}
theorem eqv_ints {xs ys : List Int} : (PyData.list (List.map PyData.int xs)).eqv (PyData.list (List.map PyData.int ys)) = decide (xs = ys) := by
  rw [← ked_eqvAll]; rfl
theorem superB_ne {q0 q1 : Int} (h : (PyData.list (List.map PyData.int [d.r0, d.r1, d.c, d.b0, d.b1])).eqv (PyData.list (List.map PyData.int [e.r0, e.r1, e.c, e.b0, e.b1])) = false) : superB d e q0 q1 = lexL true [d.r0, d.r1, d.c, d.b0, d.b1] [e.r0, e.r1, e.c, e.b0, e.b1] := by
  rw [eqv_ints] at h
  have h' : ¬ d.head = e.head := of_decide_eq_false h
  rw [superB, if_neg h']
  exact lexL_ne h' rfl
theorem superB_eq {q0 q1 : Int} (h : (PyData.list (List.map PyData.int [d.r0, d.r1, d.c, d.b0, d.b1])).eqv (PyData.list (List.map PyData.int [e.r0, e.r1, e.c, e.b0, e.b1])) = true) (h1 : [d.b0, d.b1] = [q0, q1]) : superB d e q0 q1 = lexL true [d.p0, d.p1] [e.p0, e.p1] := by
  rw [eqv_ints] at h
  have h' : d.head = e.head := of_decide_eq_true h
  rw [superB, if_pos h', decide_eq_true h1]; rfl
theorem superB_un {q0 q1 : Int} (h : (PyData.list (List.map PyData.int [d.r0, d.r1, d.c, d.b0, d.b1])).eqv (PyData.list (List.map PyData.int [e.r0, e.r1, e.c, e.b0, e.b1])) = true) (h1 : ¬ [d.b0, d.b1] = [q0, q1]) : superB d e q0 q1 = !decide ([d.b0, d.b1] = [q0, q1]) := by
  rw [eqv_ints] at h
  have h' : d.head = e.head := of_decide_eq_true h
  rw [superB, if_pos h', decide_eq_false h1]; rfl
theorem oursB_1 {r0 r1 cc q0 q1 : Int} (h : [e.b0, e.b1] = [q0, q1]) : oursB e r0 r1 cc q0 q1 = decide ([e.b0, e.b1] = [q0, q1]) := by
  rw [oursB, decide_eq_true h]; rfl
theorem oursB_2 {r0 r1 cc q0 q1 : Int} (h : ¬ [e.b0, e.b1] = [q0, q1]) (h1 : [r0, r1] = [e.r0, e.r1]) : oursB e r0 r1 cc q0 q1 = lexL true [cc, q0, q1, e.p0, e.p1] [e.c, e.b0, e.b1, e.p0, e.p1] := by
  rw [oursB, decide_eq_false h, decide_eq_true h1.symm]; rfl
theorem oursB_3 {r0 r1 cc q0 q1 : Int} (h : ¬ [e.b0, e.b1] = [q0, q1]) (h1 : ¬ [r0, r1] = [e.r0, e.r1]) : oursB e r0 r1 cc q0 q1 = !decide ([r0, r1] = [e.r0, e.r1]) := by
  rw [oursB, decide_eq_false h, decide_eq_false (fun h => h1 h.symm), decide_eq_false h1]; rfl
theorem join_due {prog : Program} {A : Around} {env : Env} {st : Stmt} {Q : Flow → Shared → Prop} {nb : Addr} {q0 q1 : Int} {tq0 tq1 : Tok} (F0 : Fr h₀ L s.heap m) (N0 : News h₀ L s.heap news) (hv0 : m (Str.ofString "near") = some (.ref nb)) (hm0 : (nb, tupO [.int q0 tq0, .int q1 tq1]) ∈ news)
    (br : ∀ P : Flow → Shared → Prop, (∀ h' tk', Fr h₀ L h' (fun y => if y = Str.ofString "due" then some (.bool (superB d e q0 q1)) else m y) → News h₀ L h' news → P .next { s with heap := h', toks := tk' }) → wpAny (model prog w) A (exec st env) P E s)
    (go : ∀ h' tk', Fr h₀ L h' (fun y => if y = Str.ofString "due" then some (.bool (superB d e q0 q1)) else m y) → News h₀ L h' news → Q .next { s with heap := h', toks := tk' }) : wpAny (model prog w) A (exec st env) Q E s := br Q go
theorem due_end {P : Flow → Shared → Prop} {x z : Bool} {h' : Heap} {tk' : Nat} {all : List (Addr × Obj)} (hP : ∀ h' tk', Fr h₀ L h' (fun y => if y = Str.ofString "due" then some (.bool z) else m y) → News h₀ L h' all → P .next { s with heap := h', toks := tk' }) (e : x = z) (F : Fr h₀ L h' (fun y => if y = Str.ofString "due" then some (.bool x) else m y)) (N : News h₀ L h' all) : P .next { s with heap := h', toks := tk' } := hP h' tk' (e ▸ F) N
theorem old_body (B : Below A₀ base outer h₀) (F : Fr h₀ L s.heap m) (X : (hd.heap_39 w.params).In h₀) (N : News h₀ L s.heap ((src, srcO x y t u n) :: tl)) (T : Top MineHead.VW (looseW MineHead.VW []) mean mg mb h₀) (hk : cs.kind = .function) (hn : ∀ p ∈ tl, p.1 ≠ src) (hx : 0 ≤ x) (hy : 0 ≤ y) (hy2 : y < 2147483647) (V1 : VecIn tl va d) (V2 : VecIn tl vb e) (hdp : dp + 5 < recursionLimit) (hu : un + 240 < cLine)
    (ret : ∀ (x' y' : Int) (t' u' : Tok) (n' : Nat) (h' : Heap) (tk' : Nat), 0 ≤ x' → 0 ≤ y' → y' < 2147483647 → Fr h₀ L h' m → News h₀ L h' ((src, srcO x' y' t' u' n') :: tl) → Q (.bool true) { s with heap := h', toks := tk' }) :
    wpAny (model PySem.Challenge.rw_pb0537_01.row.prog w) (ktrTop dp un gd cn cs L a ccd cl outer) (call (.ref 276) [.ref src, .ref va, .ref vb]) Q E s := by
  have W1 := V1
  have W2 := V2
  obtain ⟨r, b, p, t0, t1, t2, t3, t4, t5, t6, m1, m2, m3, m4⟩ := V1
  obtain ⟨r', b', p', t0', t1', t2', t3', t4', t5', t6', n1, n2, n3, n4⟩ := V2
  have hr1 : r ≠ src := hn _ m2
  have hb1 : b ≠ src := hn _ m3
  have hr2 : r' ≠ src := hn _ n2
  have hb2 : b' ≠ src := hn _ n3
  revert X; k_fill; intro X
  refine wpAny_call ?_
  k_dflt cell_enter
  (repeat' (focus (first | (fail_if_success (with_reducible show wpAny _ _ (exec (Stmt.If _ _ _ _) _) _ _ _)); (first | (k_unfold; (try dsimp only)) | (k_end; kc_close) | walk1 | (dsimp only; walk1)))))
  k_here
  k_dflt (refine' join_due (d := d) (e := e) ?jF ?jN ?jv ?jm ?jb ?jg)
  case jF => k_asm
  case jN => k_asm
  case jv => exact rfl
  case jm => k_mem
  case jb =>
    intro P hP
    k_steps
    · exact due_end hP (superB_eq (by with_reducible assumption) (by with_reducible assumption)).symm (by with_reducible assumption) (by with_reducible assumption)
    · exact due_end hP (superB_un (by with_reducible assumption) (by with_reducible assumption)).symm (by with_reducible assumption) (by with_reducible assumption)
    · exact due_end hP (superB_ne (by with_reducible assumption)).symm (by with_reducible assumption) (by with_reducible assumption)
  case jg =>
    intro h' tk' F' N'
    k_steps
    · exact (ne_bang (by with_reducible assumption) rfl).elim
    · exact old_fin ret (beq_of (oursB_1 (by with_reducible assumption))) (by with_reducible assumption) (by kqd_sub) (by with_reducible assumption) (by with_reducible assumption) (by with_reducible assumption) (by with_reducible assumption)
    · exact old_fin ret (beq_of (oursB_2 (by with_reducible assumption) (by with_reducible assumption))) (by with_reducible assumption) (by kqd_sub) (by with_reducible assumption) (by with_reducible assumption) (by with_reducible assumption) (by with_reducible assumption)
    · exact old_fin ret (beq_of (oursB_3 (by with_reducible assumption) (by with_reducible assumption))) (by with_reducible assumption) (by kqd_sub) (by with_reducible assumption) (by with_reducible assumption) (by with_reducible assumption) (by with_reducible assumption)
theorem old_ok (B : Below A₀ base outer h₀) (F : Fr h₀ L s.heap m) (X : (hd.heap_39 w.params).In h₀) (N : News h₀ L s.heap news) (T : Top MineHead.VW (looseW MineHead.VW []) mean mg mb h₀) (hk : cs.kind = .function) {g : Obj → List (Addr × Obj)} (U : UpdF src (srcO x y t u n) news g) (hx : 0 ≤ x) (hy : 0 ≤ y) (hy2 : y < 2147483647) {vs : List (Addr × Obj)} (V1 : VecIn vs va d) (V2 : VecIn vs vb e) (hvn : ∀ p ∈ vs, p.1 ≠ src) (hvs : ∀ p ∈ vs, p ∈ news) (hdp : dp + 5 < recursionLimit) (hu : un + 240 < cLine)
    (ret : ∀ (x' y' : Int) (t' u' : Tok) (n' : Nat) (h' : Heap) (tk' : Nat), 0 ≤ x' → 0 ≤ y' → y' < 2147483647 → Fr h₀ L h' m → News h₀ L h' (g (srcO x' y' t' u' n')) → Q (.bool true) { s with heap := h', toks := tk' }) :
    wpAny (model PySem.Challenge.rw_pb0537_01.row.prog w) (ktrTop dp un gd cn cs L a ccd cl outer) (call (.ref 276) [.ref src, .ref va, .ref vb]) Q E s := by
  obtain ⟨tl, hn, e1, e2⟩ := updF_perm U
  have hs : ∀ p ∈ vs, p ∈ tl := fun p hp => mem_tl e1 (hvs p hp) (hvn p hp)
  exact old_body B F X (fun p hp => N p ((e1 p).mpr hp)) T hk hn hx hy hy2 (V1.sub hs) (V2.sub hs) hdp hu fun x' y' t' u' n' h' tk' a b c F' N' => ret x' y' t' u' n' h' tk' a b c F' fun p hp => N' p ((e2 _ p).mp hp)
end

end
section
open PySem PySem.W PyProof.Rows PySem.Spec PySem.Calls
set_option maxRecDepth 100000
set_option maxHeartbeats 8000000
theorem unr_end {h₀ : Heap} {L i : Addr} {o : Obj} {s₁ : Shared} {news : List (Addr × Obj)} {rest : (Str → Option Value) → List (Addr × Obj) → Prop} {h' : Heap} {tk : Nat} {m' : Str → Option Value}
    (F : Fr h₀ L h' m') (N : News h₀ L h' ((i, o) :: news)) (l1 : ∀ p ∈ news, p.1 < i) (r : rest m' news) : UnrEndW h₀ L s₁ [(i, o)] rest { s₁ with heap := h', toks := tk } :=
  ⟨h', tk, m', news, rfl, F, N, fun p hp q hq e => by
    have h1 := l1 p hp
    have e2 : q = (i, o) := by simpa using hq
    rw [e2] at e
    rw [e] at h1
    exact absurd h1 (Nat.lt_irrefl _), r⟩
theorem subL_ofC {all : List (Addr × Obj)} : ∀ {l : List (Addr × Obj)}, (∀ p ∈ l, p ∈ all) → SubL l all
  | [], _ => trivial
  | p :: r, h => ⟨h p List.mem_cons_self, subL_ofC fun q hq => h q (List.mem_cons_of_mem _ hq)⟩
theorem ret_int {h₀ : Heap} {L : Addr} {m : Str → Option Value} {s : Shared} {news : List (Addr × Obj)} {Q : Value → Shared → Prop} {x y : Int} {t : Tok} {h' : Heap} {tk' : Nat} (ret : ∀ (t : Tok) (h' : Heap) (tk' : Nat), Fr h₀ L h' m → News h₀ L h' news → Q (.int x t) { s with heap := h', toks := tk' })
    (e : y = x) (F : Fr h₀ L h' m) (N : News h₀ L h' news) : Q (.int y t) { s with heap := h', toks := tk' } := e ▸ ret t h' tk' F N

def shortB (v : Int) : Int := if 10000 ≤ v then 2 else if 1000 ≤ v then 4 else if 100 ≤ v then 19 else if 16 ≤ v then 62 else if 10 ≤ v then 100 else 250
theorem log2_le {i : Int} (h1 : 1 ≤ i) (h2 : i ≤ 40000000) : i.natAbs < 2 ^ 62 := by omega
theorem lines17 : True := by
  k_with_none
  k_with "k_ne" => (first | with_reducible assumption | exact Ne.symm (by with_reducible assumption) | exact ne_gt (by with_reducible assumption) | exact ne_lt (by with_reducible assumption) | exact ne_gt (cj0 (by with_reducible assumption)) | exact ne_lt (cj0 (by with_reducible assumption)) | exact ne_gt (cj1 (by with_reducible assumption)) | exact ne_lt (cj1 (by with_reducible assumption)) | exact ne_gt (cj2 (by with_reducible assumption)) | exact ne_lt (cj2 (by with_reducible assumption)) | exact ne_gt (cj3 (by with_reducible assumption)) | exact ne_lt (cj3 (by with_reducible assumption)) | exact ne_gt (cj4 (by with_reducible assumption)) | exact ne_lt (cj4 (by with_reducible assumption)) | exact ne_gt (cj5 (by with_reducible assumption)) | exact ne_lt (cj5 (by with_reducible assumption)) | exact ne_gt (cj6 (by with_reducible assumption)) | exact ne_lt (cj6 (by with_reducible assumption)) | exact ne_gt (cj7 (by with_reducible assumption)) | exact ne_lt (cj7 (by with_reducible assumption)) | exact ne_gt (cj8 (by with_reducible assumption)) | exact ne_lt (cj8 (by with_reducible assumption)) | exact ne_gt (cj9 (by with_reducible assumption)) | exact ne_lt (cj9 (by with_reducible assumption)) | exact ne_gt (cj10 (by with_reducible assumption)) | exact ne_lt (cj10 (by with_reducible assumption)) | exact ne_gt (cj11 (by with_reducible assumption)) | exact ne_lt (cj11 (by with_reducible assumption)) | exact ne_gt (cj12 (by with_reducible assumption)) | exact ne_lt (cj12 (by with_reducible assumption)) | exact ne_gt (cj13 (by with_reducible assumption)) | exact ne_lt (cj13 (by with_reducible assumption)) | exact ne_gt (cj14 (by with_reducible assumption)) | exact ne_lt (cj14 (by with_reducible assumption)) | exact ne_gt (cj15 (by with_reducible assumption)) | exact ne_lt (cj15 (by with_reducible assumption)) | exact ne_gt (cj16 (by with_reducible assumption)) | exact ne_lt (cj16 (by with_reducible assumption)) | exact ne_gt (cj17 (by with_reducible assumption)) | exact ne_lt (cj17 (by with_reducible assumption)) | exact ne_gt (cj18 (by with_reducible assumption)) | exact ne_lt (cj18 (by with_reducible assumption)) | exact ne_gt (cj19 (by with_reducible assumption)) | exact ne_lt (cj19 (by with_reducible assumption)) | exact ne_gt (cj20 (by with_reducible assumption)) | exact ne_lt (cj20 (by with_reducible assumption)) | exact ne_gt (cj21 (by with_reducible assumption)) | exact ne_lt (cj21 (by with_reducible assumption)) | exact ne_gt (cj22 (by with_reducible assumption)) | exact ne_lt (cj22 (by with_reducible assumption)) | exact ne_gt (cj23 (by with_reducible assumption)) | exact ne_lt (cj23 (by with_reducible assumption)) | exact ne_gt (cj24 (by with_reducible assumption)) | exact ne_lt (cj24 (by with_reducible assumption)) | exact ne_gt (cj25 (by with_reducible assumption)) | exact ne_lt (cj25 (by with_reducible assumption)) | exact ne_gt (ck1 (by with_reducible assumption)) | exact ne_lt (ck1 (by with_reducible assumption)) | exact ne_gt (ck2 (by with_reducible assumption)) | exact ne_lt (ck2 (by with_reducible assumption)) | exact ne_gt (ck3 (by with_reducible assumption)) | exact ne_lt (ck3 (by with_reducible assumption)) | exact ne_gt (ck4 (by with_reducible assumption)) | exact ne_lt (ck4 (by with_reducible assumption)) | exact ne_gt (ck5 (by with_reducible assumption)) | exact ne_lt (ck5 (by with_reducible assumption)) | exact ne_gt (ck6 (by with_reducible assumption)) | exact ne_lt (ck6 (by with_reducible assumption)) | exact ne_gt (ck7 (by with_reducible assumption)) | exact ne_lt (ck7 (by with_reducible assumption)) | exact ne_gt (ck8 (by with_reducible assumption)) | exact ne_lt (ck8 (by with_reducible assumption)) | exact ne_gt (ck9 (by with_reducible assumption)) | exact ne_lt (ck9 (by with_reducible assumption)) | exact ne_gt (ck10 (by with_reducible assumption)) | exact ne_lt (ck10 (by with_reducible assumption)) | exact ne_gt (ck11 (by with_reducible assumption)) | exact ne_lt (ck11 (by with_reducible assumption)) | exact ne_gt (ck12 (by with_reducible assumption)) | exact ne_lt (ck12 (by with_reducible assumption)) | exact ne_gt (ck13 (by with_reducible assumption)) | exact ne_lt (ck13 (by with_reducible assumption)) | exact ne_gt (ck14 (by with_reducible assumption)) | exact ne_lt (ck14 (by with_reducible assumption)) | exact ne_gt (ck15 (by with_reducible assumption)) | exact ne_lt (ck15 (by with_reducible assumption)) | exact ne_gt (ck16 (by with_reducible assumption)) | exact ne_lt (ck16 (by with_reducible assumption)) | exact ne_gt (ck17 (by with_reducible assumption)) | exact ne_lt (ck17 (by with_reducible assumption)) | exact ne_gt (ck18 (by with_reducible assumption)) | exact ne_lt (ck18 (by with_reducible assumption)) | exact ne_gt (ck19 (by with_reducible assumption)) | exact ne_lt (ck19 (by with_reducible assumption)) | exact ne_gt (ck20 (by with_reducible assumption)) | exact ne_lt (ck20 (by with_reducible assumption)) | exact ne_gt (ck21 (by with_reducible assumption)) | exact ne_lt (ck21 (by with_reducible assumption)) | exact ne_gt (ck22 (by with_reducible assumption)) | exact ne_lt (ck22 (by with_reducible assumption)) | exact ne_gt (ck23 (by with_reducible assumption)) | exact ne_lt (ck23 (by with_reducible assumption)) | exact ne_gt (ck24 (by with_reducible assumption)) | exact ne_lt (ck24 (by with_reducible assumption)) | exact ne_gt (ck25 (by with_reducible assumption)) | exact ne_lt (ck25 (by with_reducible assumption)))
  k_with "ktr_room" => (first | exact room2 (by with_reducible assumption) (by decide) | exact room1 (by with_reducible assumption) (by decide) | exact room0 (by with_reducible assumption) | exact room3 (by with_reducible assumption) (by decide))
  k_with "ktr_units" => (first | exact room2 (by with_reducible assumption) (by decide) | exact room1 (by with_reducible assumption) (by decide) | exact room0 (by with_reducible assumption) | exact room3 (by with_reducible assumption) (by decide))
  k_with "ke_room" => (first | exact room2 (by with_reducible assumption) (by decide) | exact room1 (by with_reducible assumption) (by decide) | exact room0 (by with_reducible assumption) | exact room3 (by with_reducible assumption) (by decide))
  k_with "UnrEndW" => (k_here; k_dflt (refine' unr_end (by (k_asm)) (by (k_asm)) (by (k_asm)) ⟨(by (first | exact trivial | exact subL_ofC (fun _ h => h))), ?_⟩))
  exact True.intro
section
variable {w : World} {mean : ExcName → Option Value} {mg mb : Str → Option Value} {dp un : Nat} {gd : Option (List Code)} {cn : Str} {cs : Scope} {a : Addr} {ccd : Value} {cl : List (Str × Addr)} {outer : List Env} {A₀ : Around} {base h₀ : Heap} {L : Addr} {m : Str → Option Value} {s : Shared} {Q E : Value → Shared → Prop}
  {news tl : List (Addr × Obj)} {src : Addr} {x y : Int} {t u tt : Tok} {n : Nat}
  {v : Int} {tv : Tok}
theorem costS_ok (B : Below A₀ base outer h₀) (F : Fr h₀ L s.heap m) (X : (hd.heap_39 w.params).In h₀) (N : News h₀ L s.heap news) (T : Top MineHead.VW (looseW MineHead.VW []) mean mg mb h₀) (hk : cs.kind = .function) (hv : 1 ≤ v) (hdp : dp + 2 < recursionLimit) (hu : un + 210 < cLine)
    (ret : ∀ (t' : Tok) (h' : Heap) (tk' : Nat), Fr h₀ L h' m → News h₀ L h' news → Q (.int (shortB v) t') { s with heap := h', toks := tk' }) :
    wpAny (model PySem.Challenge.rw_pb0537_01.row.prog w) (ktrTop dp un gd cn cs L a ccd cl outer) (call (.ref 67) [.int v tv, .bool false]) Q E s := by
  revert X; k_fill; intro X
  refine wpAny_call ?_
  k_dflt cell_enter
  k_steps
  all_goals refine ret_int ret ?_ (by assumption) (cb_drop (by assumption) (by kqd_sub))
  all_goals (unfold shortB; (repeat' split) <;> omega)
def longB (v : Int) : Int := max 1 (min 200000000 ((20000000 : Int).fdiv v))
theorem longB_if {z : Int} : (if (if z < 200000000 then z else 200000000) > 1 then if z < 200000000 then z else 200000000 else 1) = max 1 (min 200000000 z) := by
  rw [Int.max_def, Int.min_def]
  split <;> split <;> omega
theorem costL_ok (B : Below A₀ base outer h₀) (F : Fr h₀ L s.heap m) (X : (hd.heap_39 w.params).In h₀) (N : News h₀ L s.heap news) (T : Top MineHead.VW (looseW MineHead.VW []) mean mg mb h₀) (hk : cs.kind = .function) (hv : 1 ≤ v) (hv2 : v ≤ 40000000) (hdp : dp + 2 < recursionLimit) (hu : un + 210 < cLine)
    (ret : ∀ (t' : Tok) (h' : Heap) (tk' : Nat), Fr h₀ L h' m → News h₀ L h' news → Q (.int (longB v) t') { s with heap := h', toks := tk' }) :
    wpAny (model PySem.Challenge.rw_pb0537_01.row.prog w) (ktrTop dp un gd cn cs L a ccd cl outer) (call (.ref 67) [.int v tv, .bool true]) Q E s := by
  revert X; k_fill; intro X
  refine wpAny_call ?_
  k_dflt cell_enter
  k_steps
  exact ret_int ret longB_if (by assumption) (cb_drop (by assumption) (by kqd_sub))
end

end
section
open PySem PySem.W PyProof.Rows PySem.Spec PySem.Calls
open PyProof.Rows.LCg PyProof.Rows.LCt
section
variable {prog : Program} {w : World} {A : Around} {E : Value → Shared → Prop} {s : Shared} {h₀ : Heap} {L : Addr} {m : Str → Option Value} {env : Env}
/-- the source of a comprehension: a made dict whose keys are ints -/
def SrcD (prog : Program) (w : World) (A : Around) (h₀ : Heap) (L : Addr) (m : Str → Option Value) (env : Env) (ct elt : Expr) (x : Str) (scope : Scope) (cl : List (Str × Addr)) (Fin : Shared → List Value → List (Addr × Obj) → Prop) (xv : Value) (s₁ : Shared) : Prop :=
  ∃ d od news kvs, xv = .ref d ∧ (d == sysModules) = false ∧ A.handled = none ∧ Fr h₀ L s₁.heap m ∧ News h₀ L s₁.heap news ∧ (d, od) ∈ news ∧ od.IsDictOf (intKind prog w) kvs ∧ kvs.length ≤ sizeLine ∧
    ∀ g : Heap, CompRestT prog w A h₀ L m env ct elt x scope cl { s₁ with heap := g } (fun nw => (d, od) ∈ nw) (fun i v => ∃ k t, (kvs.map (·.1))[i]? = some k ∧ v = .int k t) (Fin { s₁ with heap := g }) kvs.length 0 [] news
theorem Assign_ListComp_D {ct elt iter : Expr} {x y : Str} {px py : Pos} {scope : Scope} {cl : List (Str × Addr)} {pos spos : Pos} {Q : Flow → Shared → Prop} (F₀ : Fr h₀ L s.heap m) (hLe : env.locals = L)
    (hsw : swapsWith (.ListComp elt [⟨.Name x px, iter, [ct], 0⟩] scope pos) (some (.Name y py)) spos.line env = pure true)
    (hclos : closureFor scope env = pure cl) (hcell : ∀ z ∈ scope.names, z.2 ≠ .cell) (hkind : scope.kind = .function)
    (hnames : ∀ z ∈ scope.names, z.2 = .local → scope.names.lookup z.1 = some .local) (hx : scope.names.lookup x = some .local)
    (hy : env.kindOf y = some .local) (hp : (env.scope.kind == .class || (env.scope.kind == .module && env.locals != env.globals)) = false)
    (h : wpAny (model prog w) A (eval iter env) (SrcD prog w A h₀ L m env ct elt x scope cl (fun s₂ => FinA h₀ L m s₂ y Q)) E s)
    (hs : ∀ x, foldedSetIterable iter env x = pure x := by intro _; rfl) :
    wpAny (model prog w) A (exec (.Assign [.Name y py] (.ListComp elt [⟨.Name x px, iter, [ct], 0⟩] scope pos) spos) env) Q E s := by
  subst hLe
  rw [exec_Assign_Name_used _ _ _ _ hsw]
  refine wpAny_bind (wpAny_standAt (wpAny_bind ?_))
  show wpAny _ A (do let _ ← comprehension (.ListComp elt [⟨.Name x px, iter, [ct], 0⟩] scope pos) scope env _ (newList []) false (eval iter env) (some (assign (.Name y py) env))) _ _ s
  refine wpAny_bind (wpAny_mono (wpAny_comprehension_free (use := some (assign (.Name y py) env)) (Q := fun _ s' => Q .next s') rfl hs hclos hkind hnames
    (wpAny_mono h (fun xv s₁ h₁ => ?_) fun _ _ e => e)) (fun _ s' hq => wpAny_pure (wpAny_pure hq)) fun _ _ e => e)
  obtain ⟨ax, od, news, kvs, rfl, lo, hh, F, N, hm, hod, hsz, R⟩ := h₁
  obtain ⟨ep, hat⟩ := KdkAt.of hod
  have hlt : ax < s₁.heap.objs.size := Heap.lt_size (N _ hm).1
  refine wpAny_pyIter_dict lo (hat.dictAt (N _ hm).1) ?_
  have up : ∀ (o' : Obj) b o, s₁.heap.get? b = some o → (s₁.heap.push o').get? b = some o := fun o' b o e => Heap.get?_push_of_some _ e
  refine block_T (P := fun i v => ∃ k t, (kvs.map (·.1))[i]? = some k ∧ v = .int k t) (S := fun nw => (ax, od) ∈ nw) ⟨?w1, ?w2, ?w3, ?w4, ?w5⟩ hsz (St := fun i h => h.IsKeyIter s₁.heap.objs.size ax i kvs.length ep ∧ h.DictAt (intKind prog w) ax kvs ep) (fp := [s₁.heap.objs.size, ax]) (fun i h st => by obtain ⟨o, e, _⟩ := st.1; exact ⟨o, e⟩) ?st hcell hkind hx ⟨⟨_, Heap.get?_push_size _ rfl, rfl, rfl⟩, (hat.dictAt (N _ hm).1).push _⟩ (fun b hb => ?_)
      (F.keeps (up _)) (N.grown (up _)) (Nat.ne_of_lt F.ns.lt) (next_is_new F) (fun p hp => Nat.ne_of_lt (Heap.lt_size (N p hp).1)) hm (R _) ?_
  case st =>
    intro i h h' o nw st e1 e2 _ N' hS
    exact ⟨st.1.at fun o' e => by rw [e1] at e; rw [e2]; exact e, hat.dictAt (N' _ hS).1⟩
  case w1 => exact (Walks.dictKeys (knd := intKind prog w) hh s₁.heap.objs.size ax (Nat.ne_of_lt hlt) kvs ep).sub
  case w2 => exact (Walks.dictKeys (knd := intKind prog w) hh s₁.heap.objs.size ax (Nat.ne_of_lt hlt) kvs ep).frame
  case w3 =>
    intro i s Q' E' hi st hQ
    refine (Walks.dictKeys (knd := intKind prog w) hh s₁.heap.objs.size ax (Nat.ne_of_lt hlt) kvs ep).item i s Q' E' hi st fun v h' tk hP => hQ v h' tk ?_
    obtain ⟨k, x', e, hk⟩ := hP
    obtain ⟨t, rfl⟩ := Value.isInt_shape hk
    exact ⟨k, t, by rw [List.getElem?_map, e]; rfl, rfl⟩
  case w4 => exact (Walks.dictKeys (knd := intKind prog w) hh s₁.heap.objs.size ax (Nat.ne_of_lt hlt) kvs ep).done
  case w5 => exact (Walks.dictKeys (knd := intKind prog w) hh s₁.heap.objs.size ax (Nat.ne_of_lt hlt) kvs ep).self
  · show b < (s₁.heap.push _).objs.size
    rw [Heap.size_push]
    rcases List.mem_cons.mp hb with rfl | hb
    · exact Nat.lt_succ_self _
    · rw [List.mem_singleton.mp hb]; exact Nat.lt_succ_of_lt hlt
  · intro D C h' tk m' ys news' F' N' o1 hn hC₀ hD₀ hCL hDL hCD offC fin
    show wpAny _ A (assign (.Name y py) env (.ref D)) _ _ _
    refine wpAny_assign_Name (wpAny_storeName_local hy F'.ns (fun h₂ hn₂ hs₂ => ?_) hp)
    have hL₀ : h₀.get? env.locals = none := Heap.get?_none_of_le F'.above
    have F₂ : Fr h₀ env.locals h₂ (fun z => if z = y then some (.ref D) else m z) := ⟨hn₂, fun b o e => hs₂.extBut b o (fun q => by rw [q, hL₀] at e; cases e) (F'.keep b o e), F'.above⟩
    refine ⟨m', hn.sameBut hs₂ hCL, fun h'' hs'' => fin D h'' _ (F₂.change hs'' hCL hC₀) (fun p hp => ?_) o1⟩
    have z : h₂.get? p.1 = some p.2 := hs₂.extBut _ _ (N' p hp).2.1 (N' p hp).1
    refine ⟨hs''.extBut _ _ ?_ z, (N' p hp).2⟩
    rcases List.mem_cons.mp hp with rfl | hp
    · exact Ne.symm hCD
    · exact offC p hp
theorem SrcD.intro {ct elt : Expr} {x : Str} {scope : Scope} {cl : List (Str × Addr)} {Fin : Shared → List Value → List (Addr × Obj) → Prop} {s₁ : Shared} {d : Addr} {od : Obj} {news : List (Addr × Obj)} {kvs : List (Int × Value)} (lo : (d == sysModules) = false) (hh : A.handled = none) (F : Fr h₀ L s₁.heap m) (N : News h₀ L s₁.heap news) (hm : (d, od) ∈ news) (hd : od.IsDictOf (intKind prog w) kvs) (hsz : kvs.length ≤ sizeLine)
    (R : ∀ g : Heap, CompRestT prog w A h₀ L m env ct elt x scope cl { s₁ with heap := g } (fun nw => (d, od) ∈ nw) (fun i v => ∃ k t, (kvs.map (·.1))[i]? = some k ∧ v = .int k t) (Fin { s₁ with heap := g }) kvs.length 0 [] news) :
    SrcD prog w A h₀ L m env ct elt x scope cl Fin (.ref d) s₁ := ⟨d, od, news, kvs, rfl, lo, hh, F, N, hm, hd, hsz, R⟩
theorem comp_end {I C D : Addr} {s₁ : Shared} {oI oC oD : Obj} {S : List (Addr × Obj) → Prop} {rest : Value → List (Addr × Obj) → Prop} {y : Value} {h' : Heap} {tk : Nat} {news' : List (Addr × Obj)}
    (F : Fr h₀ L h' m) (N : News h₀ L h' ((I, oI) :: (C, oC) :: (D, oD) :: news')) (off : Off3 I C D news') (hS : S news') (r : rest y news') :
    CompEnd h₀ L m s₁ I oI C oC D oD S rest y { s₁ with heap := h', toks := tk } := ⟨h', tk, news', rfl, F, N, off, hS, r⟩
end

end
section
open PySem PySem.W PyProof.Rows PySem.Spec PySem.Calls
open PyProof.Rows.LCg PyProof.Rows.LCt
section
variable {prog : Program} {w : World} {A : Around} {h₀ : Heap} {L : Addr} {m : Str → Option Value} {env : Env} {ct elt : Expr} {x : Str} {scope : Scope} {cl : List (Str × Addr)} {s : Shared} {S : List (Addr × Obj) → Prop} {Fin : List Value → List (Addr × Obj) → Prop} {news : List (Addr × Obj)} {ks : List Int} {v : Int} {n : Nat}
/-- what a test or an element over an int does: it reads and gives z back -/
def Reads1 {α : Type} (prog : Program) (w : World) (A : Around) (h₀ : Heap) (L : Addr) (m : Str → Option Value) (t : Addr → Sem α) (x : Str) (s : Shared) (news : List (Addr × Obj)) (z : Int → Tok → α) : Prop :=
  ∀ (k : Int) (t' : Tok) (I C D : Addr) (oI oC : Obj) (ys : List Value) (m₂ : Str → Option Value) (h : Heap) (tk : Nat) (Q : α → Shared → Prop) (E' : Value → Shared → Prop), NsObj oC m₂ → m₂ x = some (.int k t') → Fr h₀ L h m → News h₀ L h ((I, oI) :: (C, oC) :: (D, lst ys) :: news) →
    (∀ h' tk', Fr h₀ L h' m → News h₀ L h' ((I, oI) :: (C, oC) :: (D, lst ys) :: news) → Q (z k t') { s with heap := h', toks := tk' }) → wpAny (model prog w) A (t C) Q E' { s with heap := h, toks := tk }
theorem filt_ints (hn : ks.length = n) (hS : S news)
    (test : Reads1 prog w A h₀ L m (fun C => isTrue ct (compEnvC scope cl C env) (eval ct (compEnvC scope cl C env))) x s news (fun k _ => decide (k ≤ v)))
    (el : Reads1 prog w A h₀ L m (fun C => eval elt (compEnvC scope cl C env)) x s news (fun k t => .int k t))
    (fin : ∀ ys, IntsAre ys (ks.filter fun k => decide (k ≤ v)) → Fin ys news) :
    CompRestT prog w A h₀ L m env ct elt x scope cl s S (fun i y => ∃ k t, ks[i]? = some k ∧ y = .int k t) Fin n 0 [] news := by
  have key : ∀ (j i : Nat) (ys : List Value), i + j = n → IntsAre ys ((ks.take i).filter fun k => decide (k ≤ v)) → CompRestT prog w A h₀ L m env ct elt x scope cl s S (fun i y => ∃ k t, ks[i]? = some k ∧ y = .int k t) Fin j i ys news := by
    intro j
    induction j with
    | zero =>
      intro i ys hi hy
      have e : i = ks.length := by omega
      subst e
      rw [List.take_length] at hy
      exact CompRestT.zero (fin ys hy)
    | succ j ih =>
      intro i ys hi hy
      refine CompRestT.succ ?_
      intro y I oI C oC D m₂ h tk E' hv hC hx F N off ne
      obtain ⟨k, t, hk, rfl⟩ := hv
      refine test k t I C D oI oC ys m₂ h tk _ E' hC hx F N fun h' tk' F' N' => ?_
      have hs : (ks.take (i + 1)).filter (fun k => decide (k ≤ v)) = (ks.take i).filter (fun k => decide (k ≤ v)) ++ [k].filter (fun k => decide (k ≤ v)) := by
        rw [List.take_add_one, hk, List.filter_append]; rfl
      by_cases hkv : k ≤ v
      · rw [if_pos (decide_eq_true hkv)]
        refine el k t I C D oI oC ys m₂ h' tk' _ E' hC hx F' N' fun h'' tk'' F'' N'' => ?_
        refine ⟨h'', tk'', news, rfl, F'', N'', off, hS, ih (i + 1) _ (by omega) ?_⟩
        rw [hs, List.filter_cons_of_pos (by exact decide_eq_true hkv)]
        exact IntsAre.append hy (.cons k t .nil)
      · rw [if_neg (by simp [hkv])]
        refine ⟨h', tk', news, rfl, F', N', off, hS, ih (i + 1) _ (by omega) ?_⟩
        rw [hs, List.filter_cons_of_neg (by simp [hkv])]
        simpa using hy
  exact key n 0 [] (by omega) (by simpa using IntsAre.nil)
end
theorem fpos {k v : Int} {r l : List Int} (h : k ≤ v) (e : r.filter (fun k => decide (k ≤ v)) = l) : (k :: r).filter (fun k => decide (k ≤ v)) = k :: l := by rw [List.filter_cons_of_pos (by exact decide_eq_true h), e]
theorem fneg {k v : Int} {r l : List Int} (h : v < k) (e : r.filter (fun k => decide (k ≤ v)) = l) : (k :: r).filter (fun k => decide (k ≤ v)) = l := by rw [List.filter_cons_of_neg (by simp; omega), e]
abbrev keysL : List Int := [4, 10, 16, 100, 1000, 10000]
theorem keys_seven {v : Int} {P : List Int → Prop} (h0 : v < 4 → P []) (h1 : 4 ≤ v → v < 10 → P [4]) (h2 : 10 ≤ v → v < 16 → P [4, 10]) (h3 : 16 ≤ v → v < 100 → P [4, 10, 16]) (h4 : 100 ≤ v → v < 1000 → P [4, 10, 16, 100])
    (h5 : 1000 ≤ v → v < 10000 → P [4, 10, 16, 100, 1000]) (h6 : 10000 ≤ v → P keysL) : P (keysL.filter fun k => decide (k ≤ v)) := by
  have t : (v < 4 ∨ 4 ≤ v ∧ v < 10) ∨ (10 ≤ v ∧ v < 16 ∨ 16 ≤ v ∧ v < 100) ∨ (100 ≤ v ∧ v < 1000 ∨ 1000 ≤ v ∧ v < 10000) ∨ 10000 ≤ v := by omega
  rcases t with (h | ⟨a, b⟩) | (⟨a, b⟩ | ⟨a, b⟩) | (⟨a, b⟩ | ⟨a, b⟩) | h
  · rw [show keysL.filter (fun k => decide (k ≤ v)) = [] from fneg h (fneg (by omega) (fneg (by omega) (fneg (by omega) (fneg (by omega) (fneg (by omega) rfl)))))]; exact h0 h
  · rw [show keysL.filter (fun k => decide (k ≤ v)) = [4] from fpos a (fneg b (fneg (by omega) (fneg (by omega) (fneg (by omega) (fneg (by omega) rfl)))))]; exact h1 a b
  · rw [show keysL.filter (fun k => decide (k ≤ v)) = [4, 10] from fpos (by omega) (fpos a (fneg b (fneg (by omega) (fneg (by omega) (fneg (by omega) rfl)))))]; exact h2 a b
  · rw [show keysL.filter (fun k => decide (k ≤ v)) = [4, 10, 16] from fpos (by omega) (fpos (by omega) (fpos a (fneg b (fneg (by omega) (fneg (by omega) rfl)))))]; exact h3 a b
  · rw [show keysL.filter (fun k => decide (k ≤ v)) = [4, 10, 16, 100] from fpos (by omega) (fpos (by omega) (fpos (by omega) (fpos a (fneg b (fneg (by omega) rfl)))))]; exact h4 a b
  · rw [show keysL.filter (fun k => decide (k ≤ v)) = [4, 10, 16, 100, 1000] from fpos (by omega) (fpos (by omega) (fpos (by omega) (fpos (by omega) (fpos a (fneg b rfl)))))]; exact h5 a b
  · rw [show keysL.filter (fun k => decide (k ≤ v)) = keysL from fpos (by omega) (fpos (by omega) (fpos (by omega) (fpos (by omega) (fpos (by omega) (fpos h rfl)))))]; exact h6 h

end
section
open PySem PySem.W PyProof.Rows PySem.Spec PySem.Calls
open PyProof.Rows.LCg PyProof.Rows.LCt
set_option maxRecDepth 100000
set_option maxHeartbeats 8000000

theorem no_ints {ys : List Value} (h : IntsAre ys []) : ys = [] := by cases h; rfl
theorem some_int {ys : List Value} {k : Int} {l : List Int} (h : IntsAre ys (k :: l)) : ∃ t r, ys = .int k t :: r ∧ IntsAre r l := by cases h with | cons k t r => exact ⟨t, _, rfl, r⟩
section
variable {w : World} {mean : ExcName → Option Value} {mg mb : Str → Option Value} {dp un : Nat} {gd : Option (List Code)} {cn : Str} {cs : Scope} {a : Addr} {ccd : Value} {cl : List (Str × Addr)} {outer : List Env} {A₀ : Around} {base h₀ : Heap} {L : Addr} {m : Str → Option Value} {s : Shared} {Q E : Value → Shared → Prop}
  {news tl : List (Addr × Obj)} {src : Addr} {x y : Int} {t u tt : Tok} {n : Nat}
  {v : Int} {tv : Tok}
theorem short_ok (B : Below A₀ base outer h₀) (F : Fr h₀ L s.heap m) (X : (hd.heap_39 w.params).In h₀) (N : News h₀ L s.heap news) (T : Top MineHead.VW (looseW MineHead.VW []) mean mg mb h₀) (hk : cs.kind = .function) (hv : 1 ≤ v) (hdp : dp + 4 < recursionLimit) (hu : un + 230 < cLine)
    (ret : ∀ (t' : Tok) (h' : Heap) (tk' : Nat), Fr h₀ L h' m → News h₀ L h' news → Q (.int (shortB v) t') { s with heap := h', toks := tk' }) :
    wpAny (model PySem.Challenge.rw_pb0537_01.row.prog w) (ktrTop dp un gd cn cs L a ccd cl outer) (call (.ref 255) [.int v tv]) Q E s := by
  revert X; k_fill; intro X
  refine wpAny_call ?_
  k_dflt (refine' code_defC ?k1 ?k2 ?k3 ?k4 ?k5 ?kA ?kF ?kK ?k6 ?k7 ?k8 ?k9 ?kB ?kD ?_ ?c2 ?c3 ?c4; (case kA => exact rfl); (case kF => exact rfl); (case kK => assumption); (case k1 => k_asm); (case k2 => k_asm); (case k3 => k_asm); (case k4 => k_asm); (case k5 => k_asm); (case k6 => k_is); (case k7 => k_is); (case k8 => ktr_room); (case k9 => exact BindsTo.of_eq rfl); (case kB => exact rfl); (case kD => decide +kernel); (case c2 => exact rfl); (case c3 => exact rfl); (case c4 => exact rfl); k_whole; intro g' L' h' tk' cells' FG' F' N' Y' B' X' T' l1; (try k_lt l1); k_cells Y'; (try simp only [List.cons_append, List.nil_append] at N'); (try dsimp only); (try k_lift B'); (try k_fold))
  (repeat' (focus (first | (fail_if_success (with_reducible show wpAny _ _ (exec (Stmt.Assign _ (PySem.Expr.ListComp _ _ _ _) _) _) _ _ _)); (first | (k_unfold; (try dsimp only)) | (k_end; wrow_close) | walk1 | (dsimp only; walk1)))))
  k_here
  k_dflt (refine Assign_ListComp_D (by k_asm) (by rfl) (by with_unfolding_all rfl) (by with_unfolding_all rfl) (by decide) (by rfl) (by decide) (by rfl) (by rfl) (by rfl) ?_)
  (repeat' (focus (first | (fail_if_success (with_reducible show SrcD _ _ _ _ _ _ _ _ _ _ _ _ _ _ _)); (first | (k_unfold; (try dsimp only)) | (k_end; wrow_close) | walk1 | (dsimp only; walk1)))))
  k_here
  k_dflt (refine' SrcD.intro ?lo ?hh ?F ?N ?hm ?hd ?sz (fun g' => ?_))
  case lo => k_asm
  case hh => rfl
  case F => k_asm
  case N => k_asm
  case hm => k_mem
  case hd => k_asm
  case sz => exact Nat.le_of_ble_eq_true rfl
  refine filt_ints (ks := keysL) (v := v) rfl ?hS ?test ?el ?fin
  case hS => show _ ∈ _; k_mem
  case test =>
    intro k2 t2 I2 C2 D2 oI2 oC2 ys2 m2 h2 tk2 Q2 E2 hC2 hx2 F2 N2 ret2
    dsimp only
    k_steps
    exact ret2 _ _ (by with_reducible assumption) (by with_reducible assumption)
  case el =>
    intro k2 t2 I2 C2 D2 oI2 oC2 ys2 m2 h2 tk2 Q2 E2 hC2 hx2 F2 N2 ret2
    dsimp only
    k_steps
    exact ret2 _ _ (by with_reducible assumption) (by with_reducible assumption)
  case fin =>
    intro ys hI
    revert hI
    refine keys_seven (P := fun l => IntsAre ys l → _) ?_ ?_ ?_ ?_ ?_ ?_ ?_
    all_goals (intros; (repeat (rename IntsAre _ (_ :: _) => hz; obtain ⟨_, _, hz1, hz2⟩ := some_int hz; clear hz; subst hz1)); rename IntsAre _ [] => hz; have hz1 := no_ints hz; subst hz1; clear hz)
    all_goals k_steps
    all_goals refine ret_int ret ?_ (by with_reducible assumption) (cb_drop (by with_reducible assumption) (by kqd_sub))
    all_goals (unfold shortB; (repeat' split) <;> omega)
end

end
section
open PySem PySem.W PyProof.Rows PySem.Spec PySem.Calls
set_option maxRecDepth 100000
set_option maxHeartbeats 4000000
/-! an own exception class whose own base has an __init__ (in Python) -/
abbrev excO (C : Addr) (dx : Option Addr) (t : Addr) : Obj := { cls := .ref C, dict := dx, data := .fields #[.ref t, .none, .none, .none, .bool false, .none] }
section
variable {M : Model} {A : Around} {E : Value → Shared → Prop} {h : Heap} {g : Array GenState} {d : Drawn} {tk : Nat} {os : OsState}
variable {nm q : Str} {C N e t : Addr} {bs bm bmN : List Value} {hdct : Bool} {sn : List Str} {sub : List Value} {ab : Bool} {col : Option Bool} {dd dx : Option Addr} {k0 k1 k2 k3 k5 : Option Value} {B newId initId : String}
theorem rx_check_new (Fn : ExcBaseFacts B newId initId bmN) (hB : bm.contains (.type B) = true) {rest : List Value} {Q : Unit → Shared → Prop} (hC : h.get? C = some (excClassObj nm q C N bs bm hdct sn sub ab col dd k0 k1 k2 k3 k5 newId))
    (hq : Q () ⟨h, g, d, tk, os⟩) : wpAny M A (checkBuiltinCall newId ⟨.ref C :: rest, []⟩) Q E ⟨h, g, d, tk, os⟩ := by
  have hcont : (Value.ref C :: bm).contains (.type B) = true := by rw [List.contains_cons, hB, Bool.or_true]
  have hstar := Fn.noStar
  simp only [checkBuiltinCall, Fn.newKind, Fn.newSplit, Fn.newRow]
  repeat (first | refine wpAny_loadPart_at hC ?_ | (refine wpAny_isSubtype_exc hC ?_; rw [hcont]) | refine wpAny_staticBase_exc hC ?_ | refine wpAny_madeBy_exc hC ?_ | simp only [bne_self_eq_false, Bool.false_eq_true, if_false] | wp_step)
  exact hq
theorem rx_check_init (Fn : ExcBaseFacts B newId initId bmN) (hB : bm.contains (.type B) = true) {oe : Obj} {rest : List Value} {Q : Unit → Shared → Prop}
    (hC : h.get? C = some (excClassObj nm q C N bs bm hdct sn sub ab col dd k0 k1 k2 k3 k5 newId)) (he : h.get? e = some oe) (hcls : oe.cls = .ref C) (hq : Q () ⟨h, g, d, tk, os⟩) :
    wpAny M A (checkBuiltinCall initId ⟨.ref e :: rest, []⟩) Q E ⟨h, g, d, tk, os⟩ := by
  have hcB : (Value.ref C :: bm).contains (.type B) = true := by rw [List.contains_cons, hB, Bool.or_true]
  have hshort := Fn.noStar
  simp only [checkBuiltinCall, Fn.initKind, Fn.initSplit, Fn.initRow]
  repeat (first | (with_reducible refine wpAny_loadPart_at he ?_; rw [hcls]) | with_reducible refine wpAny_loadPart_at hC ?_ | (with_reducible refine wpAny_isSubtype_exc hC ?_; rw [hcB]) | wp_step)
  refine wpAny_onRaise ?_
  rw [show ∀ (a b : String) (n : Nat), Bind.check ⟨.positional, "*", B, .self, [⟨"args", .varPos, false⟩]⟩ a b n (List.map (fun x => x.fst) ({ pos := Value.ref e :: rest } : Args).kw) = pure () from
    fun a b n => check_star_args _ _ _ _ _ _]
  exact wpAny_pure hq
theorem rx_raiseStmt {s : Shared} {x : Sem Value} {Q : Flow → Shared → Prop} {env : Env} (hbase : bm.contains (.type "BaseException") = true) (hh : A.handled = none)
    (h : wpAny M A x (fun v s₁ => ∃ e t dx, v = .ref e ∧ s₁.heap.get? C = some (excClassObj nm q C N bs bm hdct sn sub ab col dd k0 k1 k2 k3 k5 newId) ∧
      s₁.heap.get? e = some (excO C dx t) ∧ E (.ref e) s₁) E s) :
    wpAny M A (raiseStmt env (some x) none) Q E s := by
  have hcB : (Value.ref C :: bm).contains (.type "BaseException") = true := by rw [List.contains_cons, hbase, Bool.or_true]
  unfold raiseStmt
  refine wpAny_bind (wpAny_mono h (fun v s₁ h₁ => ?_) fun _ _ x => x)
  obtain ⟨e, t, dx, rfl, hC, he, hE⟩ := h₁
  obtain ⟨hp, g, d, tk, os⟩ := s₁
  repeat (first | with_reducible refine wpAny_loadPart_at he ?_ | with_reducible refine wpAny_loadPart_at hC ?_ | (with_reducible refine wpAny_isSubtype_exc hC ?_; rw [hcB]) | wp_step)
  exact wpAny_raiseNew_none hh hE
end
section
variable {prog : Program} {w : World} {A : Around} {E : Value → Shared → Prop} {R : Result → Shared → Prop} {h : Heap} {g : Array GenState} {d : Drawn} {tk : Nat} {os : OsState}
variable {nm q : Str} {C N e t : Addr} {bs bm bmN : List Value} {hdct : Bool} {sn : List Str} {sub : List Value} {ab : Bool} {col : Option Bool} {dd dx : Option Addr} {k0 k1 k2 k3 k5 : Option Value} {B newId initId : String}
theorem rx_new (Fn : ExcBaseFacts B newId initId bmN) (hB : bm.contains (.type B) = true) (hA : bm.contains (.type "AttributeError") = false) (hN : bm.contains (.type "NameError") = false) {rest : List Value}
    (hC : h.get? C = some (excClassObj nm q C N bs bm hdct sn sub ab col dd k0 k1 k2 k3 k5 newId))
    (hq : R (.ok (.ret (.ref (h.objs.size + 1)))) ⟨(h.push { cls := .type "tuple", data := .seq rest.toArray }).push (excO C none h.objs.size), g, d, tk, os⟩) (hrest : rest.length ≤ sizeLine) :
    codeAny (model prog w) A (.builtin newId ⟨.ref C :: rest, []⟩) R ⟨h, g, d, tk, os⟩ := by
  have hends := Fn.ends
  have hcB : (Value.ref C :: bm).contains (.type B) = true := by rw [List.contains_cons, hB, Bool.or_true]
  have hcA : (Value.ref C :: bm).contains (.type "AttributeError") = false := by rw [List.contains_cons, hA]; rfl
  have hcN : (Value.ref C :: bm).contains (.type "NameError") = false := by rw [List.contains_cons, hN]; rfl
  refine codeAny_builtinAt Fn.entry ?_
  unfold Builtin.«BaseException.__new__»
  refine PySem.wpAt_bind ?_
  show PySem.wpAt _ _ _ (stack >>= _) _ _ _
  refine PySem.wpAt_bind (PySem.wpAt_stack fun p below => PySem.wpAt_of_wpAny ?_)
  wp_walk
  refine PySem.wpAt_of_wpAny ?_
  rw [Fn.owner]
  repeat (first | with_reducible refine wpAny_madeHere_exc Fn.canon hC ?_ | with_reducible refine wpAny_loadPart_at hC ?_ | (with_reducible refine wpAny_isSubtype_exc hC ?_; first | rw [hcB] | rw [hcA] | rw [hcN]) | wp_step)
  show R _ _
  rw [Heap.size_push]
  exact hq
/-- the class is called: the object is made, its __init__ (fI, found along the classes) is called -/
theorem rx_type_call (Fn : ExcBaseFacts B newId initId bmN) (hB : bm.contains (.type B) = true) (hA : bm.contains (.type "AttributeError") = false) (hN : bm.contains (.type "NameError") = false) {rest : List Value} {fI : Addr} {oI : Obj} {Q : Fin → Shared → Prop}
    (hC : h.get? C = some (excClassObj nm q C N bs bm hdct sn sub ab col dd k0 k1 k2 k3 k5 newId)) (hi : Looks (model prog w) h (typeLookup (.ref C) "__init__") (some (.ref fI)))
    (hfI : h.get? fI = some oI) (hfc : oI.cls = .type "function") (hrest : rest.length ≤ sizeLine)
    (hq : wpAny (model prog w) A (call (.ref fI) (.ref (h.objs.size + 1) :: rest)) (fun r s' => r = .none ∧ Q (.done (.ret (.ref (h.objs.size + 1)))) s') E ⟨(h.push { cls := .type "tuple", data := .seq rest.toArray }).push (excO C none h.objs.size), g, d, tk, os⟩) :
    wpAny (model prog w) A (Builtin.«type.__call__» ⟨.ref C :: rest, []⟩) Q E ⟨h, g, d, tk, os⟩ := by
  repeat (first | with_reducible refine wpAny_loadPart_at hC ?_ | with_reducible refine wpAny_madeBy_exc hC ?_ | wp_step)
  refine codeAny_call_builtin_code (Code.quiet_builtin _ Fn.quiet) (rx_check_new Fn hB hC ?_)
  refine rx_new Fn hB hA hN hC ?_ hrest
  show wpAny _ _ _ _ _ _
  have k : ∀ b o, h.get? b = some o → ((h.push { cls := .type "tuple", data := .seq rest.toArray }).push (excO C none h.objs.size)).get? b = some o := fun b o e => Heap.get?_push_of_some _ (Heap.get?_push_of_some _ e)
  have hC₁ := k _ _ hC
  have hfI₁ := k _ _ hfI
  have hget : ((h.push { cls := .type "tuple", data := .seq rest.toArray }).push (excO C none h.objs.size)).get? (h.objs.size + 1) = some (excO C none h.objs.size) := by heap_get
  have hcC : (Value.ref C :: bm).contains (.ref C) = true := by simp
  have hi₁ := hi.keeps k
  unfold isInstance
  repeat (first | with_reducible refine wpAny_loadPart_at hget ?_ | (with_reducible refine wpAny_isSubtype_exc hC₁ ?_; rw [hcC]) | wp_step)
  show wpAny _ _ (typeLookup (.ref C) _) _ _ _
  refine hi₁.here ?_
  refine wpAny_holding (wpAny_bind ?_)
  unfold bindSpecial
  refine wpAny_bind (wpAny_typeOf (T := "function") ⟨_, hfI₁, hfc⟩ ?_)
  rw [if_pos (by decide)]
  refine wpAny_pure (wpAny_bind (wpAny_mono hq (fun r s' hr => ?_) fun _ _ x => x))
  obtain ⟨rfl, hQ⟩ := hr
  wp_walk
  exact hQ
end

end
section
open PySem PySem.W PyProof.Rows PySem.Spec PySem.Calls
open PyProof.Rows.LCg
open Builtin Builtin.ObjectAttr
set_option maxRecDepth 100000
set_option maxHeartbeats 4000000
section
variable {prog : Program} {w : World} {A : Around} {E : Value → Shared → Prop} {s : Shared} {h₀ : Heap} {L : Addr} {m : Str → Option Value} {news : List (Addr × Obj)} {K : Frag}
variable {nm q : Str} {C N e t : Addr} {bs bm bmN : List Value} {hdct : Bool} {sn : List Str} {sub : List Value} {ab : Bool} {col : Option Bool} {dd dx : Option Addr} {k0 k1 k2 k3 k5 : Option Value} {B newId initId : String}
theorem rx_call (Fn : ExcBaseFacts B newId initId bmN) (hB : bm.contains (.type B) = true) (hA : bm.contains (.type "AttributeError") = false) (hN : bm.contains (.type "NameError") = false) {rest : List Value} {fI : Addr} {oI : Obj} {Q : Value → Shared → Prop}
    (F : Fr h₀ L s.heap m) (Nw : News h₀ L s.heap news) (hC : s.heap.get? C = some (excClassObj nm q C N bs bm hdct sn sub ab col dd k0 k1 k2 k3 k5 newId)) (hi : Looks (model prog w) s.heap (typeLookup (.ref C) "__init__") (some (.ref fI)))
    (hfI : s.heap.get? fI = some oI) (hfc : oI.cls = .type "function") (hrest : rest.length ≤ sizeLine)
    (hq : ∀ e t h', Fr h₀ L h' m → News h₀ L h' ((e, excO C none t) :: (t, { cls := .type "tuple", data := .seq rest.toArray }) :: news) → (∀ p ∈ news, @LT.lt Nat _ p.1 t) → @LT.lt Nat _ t e →
      wpAny (model prog w) (A.under (.builtin "type.__call__" ⟨.ref C :: rest, []⟩)) (call (.ref fI) (.ref e :: rest)) (fun r s' => r = .none ∧ Q (.ref e) s') E { s with heap := h' }) :
    wpAny (model prog w) A (call (.ref C) rest) Q E s := by
  obtain ⟨h, g, d, tk, os⟩ := s
  have f1 := tc_lookup
  have f2 := tc_bind (.ref C)
  have hT : (⟨h, g, d, tk, os⟩ : Shared).TypeIs (.ref C) "type" := ⟨_, hC, rfl⟩
  refine wpAny_call (codeAny_of_tree ?_)
  show wpAny _ _ (callAny (.ref C) _) _ _ _
  repeat (any_goals (first | assumption | with_reducible refine wpAny_loadPart_at hC ?_ | wp_step))
  refine ⟨rfl, ?_⟩
  refine codeAny_call_builtin_at (Code.quiet_builtin _ (by decide +kernel)) entry_typeCall (wpAny_check_type_call_sub hC (rx_type_call Fn hB hA hN hC hi hfI hfc hrest ?_))
  have N2 := (Nw.push F { cls := .type "tuple", data := .seq rest.toArray }).push (F.push _) (excO C none h.objs.size)
  rw [Heap.size_push] at N2
  exact hq (h.objs.size + 1) h.objs.size _ ((F.push _).push _) N2 (fun p hp => Heap.lt_size (Nw p hp).1) (Nat.lt_succ_self _)
theorem rx_init (Fn : ExcBaseFacts B newId initId bmN) (hB : bm.contains (.type B) = true) {rest : List Value} {Q : Value → Shared → Prop}
    (F : Fr h₀ L s.heap m) (Nw : News h₀ L s.heap ((e, excO C none t) :: news)) (off : ∀ p ∈ news, p.1 ≠ e) (hC : s.heap.get? C = some (excClassObj nm q C N bs bm hdct sn sub ab col dd k0 k1 k2 k3 k5 newId)) (hrest : rest.length ≤ sizeLine)
    (h : ∀ t' h', Fr h₀ L h' m → News h₀ L h' ((e, excO C none t') :: (t', { cls := .type "tuple", data := .seq rest.toArray }) :: news) → (∀ p ∈ (e, excO C none t) :: news, @LT.lt Nat _ p.1 t') → Q .none { s with heap := h' }) :
    wpAny (model prog w) A (call (.builtin initId) (.ref e :: rest)) Q E s := by
  obtain ⟨hp, g, d, tk, os⟩ := s
  have he := (Nw _ List.mem_cons_self).1
  have hlt := Heap.lt_size he
  refine wpAny_call (codeAny_call_builtin Fn.init.plain Fn.initEntry (rx_check_init Fn hB hC he rfl ?_))
  wp_walk
  have k : ∀ b o, b ∉ [e] → (hp.push { cls := .type "tuple", data := .seq rest.toArray }).get? b = some o → ((hp.push { cls := .type "tuple", data := .seq rest.toArray }).update e (Obj.mapFields fun l => l.setIfInBounds 0 (Value.ref hp.objs.size))).get? b = some o := fun b o hb q => (Heap.get?_update_other _ _ (fun z => hb (by rw [z]; exact List.mem_singleton.mpr rfl))).trans q
  have F1 := F.push { cls := .type "tuple", data := .seq rest.toArray }
  have he0 := (Nw _ List.mem_cons_self).2
  have N1 : News h₀ L (hp.push { cls := .type "tuple", data := .seq rest.toArray }) ((hp.objs.size, { cls := .type "tuple", data := .seq rest.toArray }) :: news) := (News.push F (fun p hp' => Nw p (List.mem_cons_of_mem _ hp')) _)
  refine h hp.objs.size _ (fr_but F1 k (Ne.symm he0.1) he0.2) (fun p hp' => ?_) fun p hp' => Heap.lt_size (Nw p hp').1
  rcases List.mem_cons.mp hp' with rfl | hp'
  · exact ⟨(Heap.get?_update_self _ (Heap.get?_push_of_some _ he) rfl).trans rfl, he0⟩
  · refine news_but N1 k (fun p hp'' => ?_) p hp'
    rcases List.mem_cons.mp hp'' with rfl | hp''
    · exact Nat.ne_of_gt hlt
    · exact off p hp''
theorem rx_refuse {self : Value} {C' : Addr} : refuseLoop self "__setattr__" [.ref C, .ref C', .type "Exception", .type "BaseException", .type "object"] = pure () := by
  rw [refuseLoop_ref, refuseLoop_ref]
  exact PySem.F.store_Exception.passes self
theorem rx_set {name : Str} {v : Value} {Q : Unit → Shared → Prop} {C' : Addr} {cd : ClassData} (X₀ : K.In h₀) (F : Fr h₀ L s.heap m) (Nw : News h₀ L s.heap ((e, excO C none t) :: news)) (off : ∀ p ∈ news, p.1 ≠ e)
    (hc : clsIn K C = some cd) (hm : cd.mro = [.ref C, .ref C', .type "Exception", .type "BaseException", .type "object"]) (hd : cd.hasDict = true) (hs : findIn K (.ref C) "__setattr__" = some (some (.builtin "object.__setattr__"))) (ht : takerIn K C name = some none)
    (h : ∀ dx h' tk, Fr h₀ L h' m → News h₀ L h' ((e, excO C (some dx) t) :: news) → Q () { s with heap := h', toks := tk }) :
    wpAny (model prog w) A (setAttr (.ref e) name v) Q E s := by
  have X := X₀.keeps F.keep
  have hx := (Nw _ List.mem_cons_self).1
  have I : InstAt s.heap e (excO C none t) C none := ⟨hx, rfl, rfl, trivial⟩
  refine set_plain X I hs ?_
  have SF := PySem.F.store_object
  have sub : Looks (model prog w) s.heap (isInstance (.ref e) (.type "object")) true := I.type.andThen (looks_mroIn X (by unfold mroIn; rw [hc, Option.bind_some, if_neg (by rw [hm]; simp), hm]; simp))
  refine codeAny_call_builtin SF.slot.plain SF.entry (@check_slot (model prog w) _ _ { s with toks := s.toks + 1 } "object.__setattr__" "object" "__setattr__" (.ref e) [.str name s.toks, v] [] _ SF.kind SF.split sub (SF.args (.ref e) (.str name s.toks) v) ?_)
  obtain ⟨attr, ha, hr⟩ := Option.bind_eq_some_iff.mp ht
  have hmro : Looks (model prog w) s.heap (mroOf (.ref C)) cd.mro := (looks_clsIn X hc).andThen .now
  have L3 : Looks (model prog w) s.heap (storeTaker? attr) none := by
    cases attr with
    | none => exact .now
    | some a =>
      obtain ⟨b, hb, hbn⟩ := Option.map_eq_some_iff.mp hr
      refine (looks_takesIn X hb).andThen ?_
      cases b with
      | true => cases hbn
      | false => exact .now
  rw [osa_eq, refuse_eq]
  refine wpAny_bind (wpAny_bind (I.type.here (s := { s with toks := s.toks + 1 }) (wpAny_bind (hmro.here (s := { s with toks := s.toks + 1 }) ?_))))
  rw [hm, rx_refuse]
  refine wpAny_pure (wpAny_bind (I.type.here (s := { s with toks := s.toks + 1 }) (wpAny_bind ((looks_findIn X ha).here (s := { s with toks := s.toks + 1 }) (wpAny_bind (L3.here (s := { s with toks := s.toks + 1 }) ?_))))))
  dsimp only
  refine wpAny_bind (wpAny_pure (wpAny_bind (wpAny_bind (wpAny_loadPart hx (wpAny_bind ((looks_clsIn X hc).here (s := { s with toks := s.toks + 1 }) ?_))))))
  rw [hd]
  dsimp only
  rw [if_neg (by simp)]
  obtain ⟨hp, g, d, tk, os⟩ := s
  dsimp only at hx
  have hx₁ : (hp.push { cls := .type "dict", data := .dict #[] }).get? e = some (excO C none t) := Heap.get?_push_of_some _ hx
  have hxs : e ≠ hp.objs.size := Nat.ne_of_lt (Heap.lt_size hx)
  refine wpAny_bind (wpAny_alloc' ?_)
  refine wpAny_bind (wpAny_update' hx₁ ?_)
  refine wpAny_pure ?_
  have hgd : ((hp.push { cls := .type "dict", data := .dict #[] }).update e fun o => { cls := o.cls, dict := some hp.objs.size, data := o.data, slots := o.slots }).get? hp.objs.size = some { cls := .type "dict", data := .dict #[] } :=
    (Heap.get?_update_ne _ _ _ _ hxs.symm).trans (Heap.get?_push_at rfl rfl)
  have hnd : ((hp.push { cls := .type "dict", data := .dict #[] }).update e fun o => { cls := o.cls, dict := some hp.objs.size, data := o.data, slots := o.slots }).Ns hp.objs.size (fun _ => none) :=
    ⟨_, #[], _, hgd, rfl, fun e he => absurd he (by simp), fun _ => rfl⟩
  show wpAny _ _ (storeInDict hp.objs.size (.str name tk) name v) _ _ _
  unfold storeInDict newKeyGuard
  refine wpAny_bind (wpAny_pure (wpAny_bind (wpAny_nsSet1 (Heap.Ns1.of_empty hnd) fun h' hn' hs => ?_)))
  obtain ⟨oD, esD, epD, hoD, hdD, hcD⟩ := hn'.count (Within.cons name v Within.nil)
  refine wpAny_bind (wpAny_lookBehind hoD (by rw [hdD]; exact pastItsLine_dict (Nat.le_trans hcD (by rw [List.length_cons, List.length_nil, sizeLine_eq]; omega))) ?_)
  wp_walk
  have k : ∀ b o, b ∉ [e] → hp.get? b = some o → h'.get? b = some o := fun b o hb q => (hs.2 b (Nat.ne_of_lt (Heap.lt_size q))).trans ((Heap.get?_update_ne _ _ _ _ (fun z => hb (by rw [z]; exact List.mem_singleton.mpr rfl))).trans (Heap.get?_push_of_some _ q))
  have he0 := (Nw _ List.mem_cons_self).2
  refine h hp.objs.size h' _ (fr_but F k (Ne.symm he0.1) he0.2) fun p hp' => ?_
  rcases List.mem_cons.mp hp' with rfl | hp'
  · exact ⟨(hs.2 e hxs).trans (Heap.get?_update_self _ hx₁ rfl), he0⟩
  · exact news_but (fun p hp'' => Nw p (List.mem_cons_of_mem _ hp'')) k off p hp'
end

end
section
open PySem PySem.W PyProof.Rows PySem.Spec PySem.Calls
open PyProof.Rows.LCg
set_option maxRecDepth 100000
set_option maxHeartbeats 4000000
/-- what a raise of a made object asks of the object -/
def RxRaised (C : Addr) (oC : Obj) (E : Value → Shared → Prop) (v : Value) (s₁ : Shared) : Prop :=
  ∃ e t dx, v = .ref e ∧ s₁.heap.get? C = some oC ∧ s₁.heap.get? e = some (excO C dx t) ∧ E (.ref e) s₁
section
variable {M : Model} {A : Around} {E : Value → Shared → Prop} {s s' : Shared} {base g : Heap} {outer : List Env} {env : Env} {L a e t : Addr} {m : Str → Option Value} {name : Str} {scope : Scope} {cd : Value} {news : List (Addr × Obj)}
variable {nm q : Str} {C N : Addr} {bs bm : List Value} {hdct : Bool} {sn : List Str} {sub : List Value} {ab : Bool} {col : Option Bool} {dd dx : Option Addr} {k0 k1 k2 k3 k5 : Option Value} {newId : String}
theorem rx_Raise {x : Expr} {pos : Pos} {Q : Flow → Shared → Prop} (hbase : bm.contains (.type "BaseException") = true) (hh : A.handled = none)
    (h : wpAny M A (eval x env) (RxRaised C (excClassObj nm q C N bs bm hdct sn sub ab col dd k0 k1 k2 k3 k5 newId) E) E s) : wpAny M A (exec (.Raise (some x) none pos) env) Q E s := by
  show wpAny M A (do standAt pos; raiseStmt env (some (do let v ← eval x env; standAt pos; pure v)) none) Q E s
  refine wpAny_bind (wpAny_standAt ?_)
  exact rx_raiseStmt hbase hh (wpAny_bind (wpAny_mono h (fun v s₁ h₁ => wpAny_bind (wpAny_standAt (wpAny_pure h₁))) fun _ _ x => x))
theorem leave_rx {vs : List Value} {n : Nat} {Q : Unit → Shared → Prop} (K : Below A base outer g) (F : Fr g L s'.heap m) (Nw : News g L s'.heap ((e, excO C dx t) :: (t, ({ cls := .type "tuple", data := .seq vs.toArray n } : Obj)) :: news)) (off : ∀ p ∈ news, p.1 ≠ e ∧ p.1 ≠ t)
    (hQ : ∀ h', RaisedS base g outer e (.ref C) t vs news h' → g.UpToSlots h' → Q () { s' with heap := h' }) (hk : scope.kind = .function) :
    wpAny M (A.deeper (envOf name scope L a cd)) (leaving (envOf name scope L a cd) (.ref e)) Q E s' := by
  have K' := K.push (name := name) (a := a) (cd := cd) F hk
  have hin : ∀ env ∈ (envOf name scope L a cd :: outer), ∀ b, env.frame = some b → b ∈ e :: t :: (envOf name scope L a cd :: outer).filterMap (·.frame) := fun env he b hb => List.mem_cons_of_mem _ (List.mem_cons_of_mem _ (List.mem_filterMap.mpr ⟨env, he, hb⟩))
  have ne := (Nw _ List.mem_cons_self)
  have nt := (Nw _ (List.mem_cons_of_mem _ List.mem_cons_self))
  have st : base.StaysIn (hideAll s'.heap (e :: t :: (envOf name scope L a cd :: outer).filterMap (·.frame))) := fun b o z => hideAll_get _ (K'.stays b o z) fun hm => by
    rcases List.mem_cons.mp hm with rfl | hm
    · have := fresh_of_stays K.stays ne.2.2; rw [this] at z; cases z
    rcases List.mem_cons.mp hm with rfl | hm
    · have := fresh_of_stays K.stays nt.2.2; rw [this] at z; cases z
    rw [(K'.frames.mem hm).1] at z; cases z
  have sg : ∀ b o, g.get? b = some o → b ∉ outer.filterMap (·.frame) → (hideAll s'.heap (e :: t :: (envOf name scope L a cd :: outer).filterMap (·.frame))).get? b = some o := fun b o z nm => hideAll_get _ (F.keep b o z) fun hm => by
    rcases List.mem_cons.mp hm with rfl | hm
    · rw [ne.2.2] at z; cases z
    rcases List.mem_cons.mp hm with rfl | hm
    · rw [nt.2.2] at z; cases z
    rcases kts_mem hm with y | y
    · rw [y, kts_self F] at z; cases z
    · exact nm y
  have hl : ∀ p ∈ news, (hideAll s'.heap (e :: t :: (envOf name scope L a cd :: outer).filterMap (·.frame))).get? p.1 = some p.2 ∧ g.get? p.1 = none ∧ base.get? p.1 = none := fun p hp => by
    have np := Nw p (List.mem_cons_of_mem _ (List.mem_cons_of_mem _ hp))
    refine ⟨hideAll_get _ np.1 fun hm => ?_, np.2.2, fresh_of_stays K.stays np.2.2⟩
    rcases List.mem_cons.mp hm with z | hm
    · exact (off p hp).1 z
    rcases List.mem_cons.mp hm with z | hm
    · exact (off p hp).2 z
    obtain ⟨env, he, hf⟩ := List.mem_filterMap.mp hm
    rcases List.mem_cons.mp he with rfl | he
    · exact np.2.1 (Option.some.inj hf).symm
    · obtain ⟨o, ho, _⟩ := (K.frames.mem (List.mem_filterMap.mpr ⟨env, he, hf⟩)).2
      rw [np.2.2] at ho; cases ho
  have hBe : (hideAll s'.heap (e :: t :: (envOf name scope L a cd :: outer).filterMap (·.frame))).get? e = none := hideAll_none _ List.mem_cons_self
  have hBt : (hideAll s'.heap (e :: t :: (envOf name scope L a cd :: outer).filterMap (·.frame))).get? t = none := hideAll_none _ (List.mem_cons_of_mem _ List.mem_cons_self)
  refine wpAny_leaving_firstW (base := hideAll s'.heap (e :: t :: (envOf name scope L a cd :: outer).filterMap (·.frame))) (a0 := .ref t) K'.stack (funFrames_hide K'.frames hin) rfl ne.1 (fun b o z => of_hideAll _ z) hBe rfl rfl rfl fun h' hL => ?_
  obtain ⟨k1, ⟨_, _, k2⟩, k3, k4⟩ := hL
  exact hQ h' ⟨⟨_, st, sg, hl, ⟨k1, hBe, k2, k3⟩, hBt⟩, Heap.TupAt.of_slots ⟨_, _, nt.1, rfl, rfl⟩ k4⟩ ((Heap.UpToSlots.of_keeps F.keep).trans k4)
end
section
variable {prog : Program} {w : World} {A₀ A : Around} {E : Value → Shared → Prop} {s' : Shared} {base g G h₀ h : Heap} {outer : List Env} {L a e t : Addr} {m : Str → Option Value} {name : Str} {scope : Scope} {cd : Value}
  {vs : List Value} {b₀ : Stmt} {suite : List Stmt} {pos np : Pos} {rest : List ExceptHandler} {Q : Flow → Shared → Prop} {news : List (Addr × Obj)} {KF : Frag} {p : Program} {loose : List Str} {mean : ExcName → Option Value} {mg mb : Str → Option Value} {x : Str}
variable {nm q : Str} {C N : Addr} {bs bm : List Value} {hdct : Bool} {sn : List Str} {sub : List Value} {ab : Bool} {col : Option Bool} {dd : Option Addr} {k0 k1 k2 k3 k5 : Option Value} {newId : String}
/-- caught in a frame that a call entered: behind it the frames below may bear other slots -/
theorem caught_rx (R : RaisedS base G (envOf name scope L a cd :: outer) e (.ref C) t vs news s'.heap) (F : Fr g L G m) (K : Below A₀ base outer g) (hsm : G.UpToSlots s'.heap) (XB : KF.In base) (TB : Top p loose mean mg mb base)
    (ex : nsIn KF mainGlobals x = some (some (.ref C))) (hKC : KF.lookup C = some (excClassObj nm q C N bs bm hdct sn sub ab col dd k0 k1 k2 k3 k5 newId)) (hbase : bm.contains (.type "BaseException") = true)
    (k : ∀ h' g', Fr g' L h' m → Below A₀ base outer g' → KF.In g' → Top p loose mean mg mb g' →
      wpAny (model prog w) ((A₀.deeper (envOf name scope L a cd)).mark (some (.ref e))) (execs (b₀ :: suite) (envOf name scope L a cd)) Q E { s' with heap := h' })
    (hk : scope.kind = .function := by rfl) (hx : (envOf name scope L a cd).kindOf x = some .globalImplicit := by rfl) (hd : (x == ("__debug__" : Str)) = false := by decide)
    (hE : PassesOwnAt (model prog w) ((A₀.deeper (envOf name scope L a cd)).mark (some (.ref e))) (A₀.deeper (envOf name scope L a cd)) (envOf name scope L a cd) E := by passes_own) :
    wpAny (model prog w) (A₀.deeper (envOf name scope L a cd)) (noteFrame (.ref e) (envOf name scope L a cd))
      (fun _ s₂ => wpAny (model prog w) (A₀.deeper (envOf name scope L a cd)) (setFlight (.ref e) none) (fun _ s₃ =>
        wpAny (model prog w) (A₀.deeper (envOf name scope L a cd)) (handleBy (.ref e) (envOf name scope L a cd) (.ExceptHandler (some (.Name x np)) none (b₀ :: suite) pos :: rest)) Q E s₃) E s₂) E s' := by
  obtain ⟨⟨B, hB, hBG, hl, hfl, hnew⟩, htup⟩ := R
  refine wpAny_looks_onW (Around.frames_deeper K.stack) rfl hfl fun h₄ hheld₄ hsm₄ => wpAny_landsW hheld₄ fun h₅ hheld hsm₅' => ?_
  have hsm₅ := hsm.trans (hsm₄.trans hsm₅')
  obtain ⟨g₅, T₅, F₅, K₅⟩ := kts_ground K F hBG hheld.1 hsm₅
  have X₅ : KF.In g₅ := XB.keeps K₅.stays
  obtain ⟨ob, hob, hobc⟩ := hheld.there
  refine wpAny_handleBy_cons (codeAny_handlers_test (name_K F₅ X₅ (topRead_of (TB.keeps K₅.stays)) ex ?_ hk hx hd)) (by intro q; cases q)
  refine wpAny_excMatches_sub_self (X₅.keeps F₅.keep _ _ hKC) hob hobc hbase (codeAny_handlers_suite (lands_againW hheld fun h₆ hfl₆ hsm₆ => ?_))
  obtain ⟨g₆, T₆, F₆, K₆⟩ := kts_ground K F hBG hfl₆.1 (hsm₅.trans hsm₆)
  exact wpAny_passesOwnAt hE (k h₆ g₆ F₆ K₆ (XB.keeps K₆.stays) (TB.keeps K₆.stays))
/-- the leaving of a call whose frames' slots may have turned -/
def LeaveAny (R : Result → Shared → Prop) (v : Value) (s' : Shared) : Prop := R (.ok (.ret v)) s'
theorem code_any {s : Shared} {env : Env} {R : Result → Shared → Prop} {name qual : Str} {params : Arguments} {body : List Stmt} {scope : Scope} {dV kV doc pm cdv ct oc : Value} {an od : Option Addr} {osl : Array (Option Value)} {f : Addr} {args : Args} {binds : List (Str × Value)}
    (B : Below A₀ base outer h₀) (F : Fr h₀ L s.heap m) (X₀ : KF.In h₀) (Nw : News h₀ L s.heap news) (T : Top p loose mean mg mb h₀) (hA : A.frames = some (env :: outer)) (hf : env.frame = some L) (hke : env.scope.kind = .function)
    (ho : KF.lookup f = some ⟨oc, od, .func (fnOf name qual params body scope dV kV doc pm an cdv ct), osl⟩) (hcd : codeIn KF cdv qual = true) (hroom : A.depth < recursionLimit)
    (hbind : BindsTo s (fnOf name qual params body scope dV kV doc pm an cdv ct) args binds) (hloc : ∀ y ∈ binds, scope.names.lookup y.1 = some .local)
    (h : ∀ g L' h₁, Fr h₀ L g m → Fr g L' h₁ (fun y => binds.reverse.lookup y) → News g L' h₁ news → Below A base (env :: outer) g → KF.In g → Top p loose mean mg mb g →
      wpAny (model prog w) (A.deeper (envOf qual scope L' f cdv)) (execs body (envOf qual scope L' f cdv))
        (fun fl s' => LeaveAny R (match fl with | .ret v => v | _ => .none) s')
        (fun e s' => wpAny (model prog w) (A.deeper (envOf qual scope L' f cdv)) (leaving (envOf qual scope L' f cdv) e) (fun _ s'' => R (.error e) s'') (fun e' s'' => R (.error e') s'') s')
        { s with heap := h₁, toks := s.toks + binds.length })
    (hco : scope.isCoroutine = false) (hgen : scope.isGenerator = false) (hk : scope.kind = .function)
    (hcell : ∀ x ∈ scope.names, x.2 ≠ .cell) : codeAny (model prog w) A (.call (.ref f) args) R s := by
  obtain ⟨FG, BG, st, _⟩ := groundX (R := R) B F Nw hA hf hke
  have X := X₀.keeps F.keep
  refine codeAny_call_def (fd := fnOf name qual params body scope dV kV doc pm an cdv ct) (body := body) (binds := binds) hroom (X _ _ ho) rfl (T.nolimit.keeps F.keep) (codeRec_of X hcd) rfl hbind hcell hloc (fun h₁ hns hk₁ => ?_) hco hgen hk
  exact h _ s.heap.objs.size h₁ FG ⟨hns, fun b o e => hk₁ b o (of_hideAll _ e), Nat.le_of_eq (hideAll_size _ _)⟩
    (fun p hp => ⟨hk₁ _ _ (Nw p hp).1, Nat.ne_of_lt (Heap.lt_size (Nw p hp).1), hideAll_none _ (List.mem_map_of_mem hp)⟩) BG (X₀.keeps st) (T.keeps st)
end

end
section
open PySem PySem.W PyProof.Rows PySem.Spec PySem.Calls
open PyProof.Rows.LCg
set_option maxRecDepth 100000
set_option maxHeartbeats 8000000
abbrev oSize : Obj := excClassObj (Str.ofString "SizeError") (Str.ofString "SizeError") 51 50 [.ref 38] [.ref 38, .type "Exception", .type "BaseException", .type "object"] true [] [] false none none (some (.ref 42)) none (some (.str (Str.ofString "SizeError") 225)) (some (.str (Str.ofString "SizeError") 233)) (some (.bool true)) "Exception.__new__"
theorem size_in (P : Params) : (hd.heap_39 P).lookup 51 = some oSize := by with_unfolding_all rfl
theorem size_cls (P : Params) : ∃ cd, clsIn (hd.heap_39 P) 51 = some cd ∧ cd.mro = [.ref 51, .ref 38, .type "Exception", .type "BaseException", .type "object"] ∧ cd.hasDict = true := ⟨_, by unfold clsIn; rw [size_in], rfl, rfl⟩
theorem meta_exc : typeOf (.type "Exception") = pure (.type "type") := by kernel_rfl

theorem lines18 : True := by
  k_with_none
  k_with "k_ne" => (first | with_reducible assumption | exact Ne.symm (by with_reducible assumption) | exact ne_gt (by with_reducible assumption) | exact ne_lt (by with_reducible assumption) | exact ne_gt (cj0 (by with_reducible assumption)) | exact ne_lt (cj0 (by with_reducible assumption)) | exact ne_gt (cj1 (by with_reducible assumption)) | exact ne_lt (cj1 (by with_reducible assumption)) | exact ne_gt (cj2 (by with_reducible assumption)) | exact ne_lt (cj2 (by with_reducible assumption)) | exact ne_gt (cj3 (by with_reducible assumption)) | exact ne_lt (cj3 (by with_reducible assumption)) | exact ne_gt (cj4 (by with_reducible assumption)) | exact ne_lt (cj4 (by with_reducible assumption)) | exact ne_gt (cj5 (by with_reducible assumption)) | exact ne_lt (cj5 (by with_reducible assumption)) | exact ne_gt (cj6 (by with_reducible assumption)) | exact ne_lt (cj6 (by with_reducible assumption)) | exact ne_gt (cj7 (by with_reducible assumption)) | exact ne_lt (cj7 (by with_reducible assumption)) | exact ne_gt (cj8 (by with_reducible assumption)) | exact ne_lt (cj8 (by with_reducible assumption)) | exact ne_gt (cj9 (by with_reducible assumption)) | exact ne_lt (cj9 (by with_reducible assumption)) | exact ne_gt (cj10 (by with_reducible assumption)) | exact ne_lt (cj10 (by with_reducible assumption)) | exact ne_gt (cj11 (by with_reducible assumption)) | exact ne_lt (cj11 (by with_reducible assumption)) | exact ne_gt (cj12 (by with_reducible assumption)) | exact ne_lt (cj12 (by with_reducible assumption)) | exact ne_gt (cj13 (by with_reducible assumption)) | exact ne_lt (cj13 (by with_reducible assumption)) | exact ne_gt (cj14 (by with_reducible assumption)) | exact ne_lt (cj14 (by with_reducible assumption)) | exact ne_gt (cj15 (by with_reducible assumption)) | exact ne_lt (cj15 (by with_reducible assumption)) | exact ne_gt (cj16 (by with_reducible assumption)) | exact ne_lt (cj16 (by with_reducible assumption)) | exact ne_gt (cj17 (by with_reducible assumption)) | exact ne_lt (cj17 (by with_reducible assumption)) | exact ne_gt (cj18 (by with_reducible assumption)) | exact ne_lt (cj18 (by with_reducible assumption)) | exact ne_gt (cj19 (by with_reducible assumption)) | exact ne_lt (cj19 (by with_reducible assumption)) | exact ne_gt (cj20 (by with_reducible assumption)) | exact ne_lt (cj20 (by with_reducible assumption)) | exact ne_gt (cj21 (by with_reducible assumption)) | exact ne_lt (cj21 (by with_reducible assumption)) | exact ne_gt (cj22 (by with_reducible assumption)) | exact ne_lt (cj22 (by with_reducible assumption)) | exact ne_gt (cj23 (by with_reducible assumption)) | exact ne_lt (cj23 (by with_reducible assumption)) | exact ne_gt (cj24 (by with_reducible assumption)) | exact ne_lt (cj24 (by with_reducible assumption)) | exact ne_gt (cj25 (by with_reducible assumption)) | exact ne_lt (cj25 (by with_reducible assumption)) | exact ne_gt (ck1 (by with_reducible assumption)) | exact ne_lt (ck1 (by with_reducible assumption)) | exact ne_gt (ck2 (by with_reducible assumption)) | exact ne_lt (ck2 (by with_reducible assumption)) | exact ne_gt (ck3 (by with_reducible assumption)) | exact ne_lt (ck3 (by with_reducible assumption)) | exact ne_gt (ck4 (by with_reducible assumption)) | exact ne_lt (ck4 (by with_reducible assumption)) | exact ne_gt (ck5 (by with_reducible assumption)) | exact ne_lt (ck5 (by with_reducible assumption)) | exact ne_gt (ck6 (by with_reducible assumption)) | exact ne_lt (ck6 (by with_reducible assumption)) | exact ne_gt (ck7 (by with_reducible assumption)) | exact ne_lt (ck7 (by with_reducible assumption)) | exact ne_gt (ck8 (by with_reducible assumption)) | exact ne_lt (ck8 (by with_reducible assumption)) | exact ne_gt (ck9 (by with_reducible assumption)) | exact ne_lt (ck9 (by with_reducible assumption)) | exact ne_gt (ck10 (by with_reducible assumption)) | exact ne_lt (ck10 (by with_reducible assumption)) | exact ne_gt (ck11 (by with_reducible assumption)) | exact ne_lt (ck11 (by with_reducible assumption)) | exact ne_gt (ck12 (by with_reducible assumption)) | exact ne_lt (ck12 (by with_reducible assumption)) | exact ne_gt (ck13 (by with_reducible assumption)) | exact ne_lt (ck13 (by with_reducible assumption)) | exact ne_gt (ck14 (by with_reducible assumption)) | exact ne_lt (ck14 (by with_reducible assumption)) | exact ne_gt (ck15 (by with_reducible assumption)) | exact ne_lt (ck15 (by with_reducible assumption)) | exact ne_gt (ck16 (by with_reducible assumption)) | exact ne_lt (ck16 (by with_reducible assumption)) | exact ne_gt (ck17 (by with_reducible assumption)) | exact ne_lt (ck17 (by with_reducible assumption)) | exact ne_gt (ck18 (by with_reducible assumption)) | exact ne_lt (ck18 (by with_reducible assumption)) | exact ne_gt (ck19 (by with_reducible assumption)) | exact ne_lt (ck19 (by with_reducible assumption)) | exact ne_gt (ck20 (by with_reducible assumption)) | exact ne_lt (ck20 (by with_reducible assumption)) | exact ne_gt (ck21 (by with_reducible assumption)) | exact ne_lt (ck21 (by with_reducible assumption)) | exact ne_gt (ck22 (by with_reducible assumption)) | exact ne_lt (ck22 (by with_reducible assumption)) | exact ne_gt (ck23 (by with_reducible assumption)) | exact ne_lt (ck23 (by with_reducible assumption)) | exact ne_gt (ck24 (by with_reducible assumption)) | exact ne_lt (ck24 (by with_reducible assumption)) | exact ne_gt (ck25 (by with_reducible assumption)) | exact ne_lt (ck25 (by with_reducible assumption)))
  k_with "ktr_room" => (first | exact room2 (by with_reducible assumption) (by decide) | exact room1 (by with_reducible assumption) (by decide) | exact room0 (by with_reducible assumption) | exact room3 (by with_reducible assumption) (by decide))
  k_with "ktr_units" => (first | exact room2 (by with_reducible assumption) (by decide) | exact room1 (by with_reducible assumption) (by decide) | exact room0 (by with_reducible assumption) | exact room3 (by with_reducible assumption) (by decide))
  k_with "ke_room" => (first | exact room2 (by with_reducible assumption) (by decide) | exact room1 (by with_reducible assumption) (by decide) | exact room0 (by with_reducible assumption) | exact room3 (by with_reducible assumption) (by decide))
  k_with "getMethod type:Exception" => (k_here; refine' method_type (by (k_asm)) (by (k_asm)) (by (exact meta_exc)) (by decide +kernel) (by (k_dflt k_is)) (by (k_handed)) ?_; )
  exact True.intro
theorem exc_off {e t : Addr} {o : Obj} {news : List (Addr × Obj)} (l1 : ∀ p ∈ news, @LT.lt Nat _ p.1 t) (l2 : @LT.lt Nat _ t e) : ∀ p ∈ (t, o) :: news, p.1 ≠ e := fun p hp => by
  rcases List.mem_cons.mp hp with rfl | hp
  · exact Nat.ne_of_lt l2
  · exact Nat.ne_of_lt (Nat.lt_trans (l1 p hp) l2)
theorem exc_off3 {e t t' : Addr} {o o1 : Obj} {news : List (Addr × Obj)} (l3 : ∀ p ∈ (e, o1) :: (t, o) :: news, @LT.lt Nat _ p.1 t') (l1 : ∀ p ∈ news, @LT.lt Nat _ p.1 t) (l2 : @LT.lt Nat _ t e) : ∀ p ∈ news, p.1 ≠ e ∧ p.1 ≠ t' := fun p hp =>
  ⟨Nat.ne_of_lt (Nat.lt_trans (l1 p hp) l2), Nat.ne_of_lt (l3 p (List.mem_cons_of_mem _ (List.mem_cons_of_mem _ hp)))⟩
theorem exc_off2 {e t t' : Addr} {o o1 o' : Obj} {news : List (Addr × Obj)} (l3 : ∀ p ∈ (e, o1) :: (t, o) :: news, @LT.lt Nat _ p.1 t') (l1 : ∀ p ∈ news, @LT.lt Nat _ p.1 t) (l2 : @LT.lt Nat _ t e) : ∀ p ∈ (t', o') :: (t, o) :: news, p.1 ≠ e := fun p hp => by
  rcases List.mem_cons.mp hp with rfl | hp
  · exact Nat.ne_of_gt (l3 _ List.mem_cons_self)
  · exact exc_off l1 l2 p hp
section
variable {w : World} {A : Around} {E : Value → Shared → Prop} {s : Shared} {h₀ : Heap} {L e t : Addr} {m : Str → Option Value} {news : List (Addr × Obj)}
theorem size_init {msg : Value} {Q : Value → Shared → Prop} (X : (hd.heap_39 w.params).In h₀) (F : Fr h₀ L s.heap m) (Nw : News h₀ L s.heap ((e, excO 51 none t) :: news)) (off : ∀ p ∈ news, p.1 ≠ e)
    (h : ∀ t' h', Fr h₀ L h' m → News h₀ L h' ((e, excO 51 none t') :: (t', tupO [msg]) :: news) → (∀ p ∈ (e, excO 51 none t) :: news, @LT.lt Nat _ p.1 t') → Q .none { s with heap := h' }) :
    wpAny (model PySem.Challenge.rw_pb0537_01.row.prog w) A (call (.builtin "Exception.__init__") [.ref e, msg]) Q E s :=
  rx_init (C := 51) PySem.F.excBase_Exception (by decide) F Nw off (X.keeps F.keep _ _ (size_in _)) (Nat.le_of_ble_eq_true rfl) h
theorem size_setattr {K : Frag} (P : Params) (e : K = hd.heap_39 P) : findIn K (.ref 51) "__setattr__" = some (some (.builtin "object.__setattr__")) ∧ takerIn K 51 (Str.ofString "message") = some none := by
  subst e
  exact ⟨by kernel_rfl, by kernel_rfl⟩
theorem size_set {msg : Value} {Q : Unit → Shared → Prop} (X : (hd.heap_39 w.params).In h₀) (F : Fr h₀ L s.heap m) (Nw : News h₀ L s.heap ((e, excO 51 none t) :: news)) (off : ∀ p ∈ news, p.1 ≠ e)
    (h : ∀ dx h' tk, Fr h₀ L h' m → News h₀ L h' ((e, excO 51 (some dx) t) :: news) → Q () { s with heap := h', toks := tk }) :
    wpAny (model PySem.Challenge.rw_pb0537_01.row.prog w) A (setAttr (.ref e) (Str.ofString "message") msg) Q E s := by
  obtain ⟨cd, hc, hm, hd'⟩ := size_cls w.params
  obtain ⟨hs, ht⟩ := size_setattr w.params rfl
  exact rx_set (C' := 38) X F Nw off hc hm hd' hs ht h
end
theorem lines19 : True := by
  k_with "call builtin:Exception.__init__" => (k_here; k_dflt (refine' size_init (by (k_asm)) (by (k_asm)) (by (k_asm)) (by (exact exc_off (by with_reducible assumption) (by with_reducible assumption))) ?_; k_whole); intro t' h' F' N' l3')
  k_with "setAttr ref" => (k_here; k_dflt (refine' size_set (by (k_asm)) (by (k_asm)) (by (k_asm)) (by (exact exc_off2 (by with_reducible assumption) (by with_reducible assumption) (by with_reducible assumption))) ?_; k_whole); intro d' h' tk' F' N')
  exact True.intro
section
variable {w : World} {mean : ExcName → Option Value} {mg mb : Str → Option Value} {dp un : Nat} {gd : Option (List Code)} {cn : Str} {cs : Scope} {a : Addr} {ccd : Value} {cl : List (Str × Addr)} {outer : List Env} {A₀ : Around} {base h₀ : Heap} {L : Addr} {m : Str → Option Value} {s : Shared} {Q E : Value → Shared → Prop}
  {news tl : List (Addr × Obj)} {src : Addr} {x y : Int} {t u tt : Tok} {n : Nat}
  {msg : Str} {tm : Tok}
theorem size_ok (B : Below A₀ base outer h₀) (F : Fr h₀ L s.heap m) (X : (hd.heap_39 w.params).In h₀) (N : News h₀ L s.heap news) (T : Top MineHead.VW (looseW MineHead.VW []) mean mg mb h₀) (hk : cs.kind = .function) (hdp : dp + 3 < recursionLimit) (hu : un + 220 < cLine)
    (ret : ∀ (e t dx : Addr) (h' : Heap) (tk' : Nat), (∀ p ∈ news, p.1 ≠ e ∧ p.1 ≠ t) → Fr h₀ L h' m → News h₀ L h' ((e, excO 51 (some dx) t) :: (t, tupO [.str msg tm]) :: news) → Q (.ref e) { s with heap := h', toks := tk' }) :
    wpAny (model PySem.Challenge.rw_pb0537_01.row.prog w) (ktrTop dp un gd cn cs L a ccd cl outer) (call (.ref 51) [.str msg tm]) Q E s := by
  revert X; k_fill; intro X
  have XX := X.keeps F.keep
  refine rx_call (C := 51) PySem.F.excBase_Exception (by decide) (by decide) (by decide) F N (XX _ _ (size_in _)) (looks_findIn XX (by k_dflt k_is)) (XX 35 _ rfl) rfl (Nat.le_of_ble_eq_true rfl) ?_
  intro e t h' F' N' l1 l2
  refine wpAny_call ?_
  k_dflt cell_enter
  k_steps
  exact ret _ _ _ _ _ (exc_off3 (by with_reducible assumption) l1 l2) (by with_reducible assumption) (cb_drop (by with_reducible assumption) (by kqd_sub))
end

end
section
open PySem PySem.W PyProof.Rows PySem.Spec PySem.Calls
set_option maxRecDepth 100000
set_option maxHeartbeats 8000000
def speedInt (k : Int) : Prop := 1 ≤ k ∧ k ≤ 40000000
theorem speed_nil : ∀ v ∈ ([] : List Value), ∃ k t, v = .int k t ∧ speedInt k := fun _ h => nomatch h
theorem speed_cons {k : Int} {t : Tok} {vs : List Value} (hk : 1 ≤ k ∧ k ≤ 40000000) (h : ∀ v ∈ vs, ∃ k t, v = .int k t ∧ speedInt k) : ∀ v ∈ (.int k t :: vs), ∃ k t, v = Value.int k t ∧ speedInt k := by
  intro v hv
  rcases List.mem_cons.mp hv with rfl | hv
  · exact ⟨_, _, rfl, hk⟩
  · exact h v hv
theorem pow_ten {prog : Program} {w : World} {A : Around} {E : Value → Shared → Prop} {s : Shared} {t u : Tok} {Q : Value → Shared → Prop} (h : Q (.int 10000000 s.toks) { s with toks := s.toks + 1 }) : wpAny (model prog w) A (binaryOp .Pow (.int 10 t) (.int 7 u)) Q E s :=
  pow_int_small (by decide) (by decide) (by decide) ((show ((10 : Int) ^ (7 : Int).toNat) = 10000000 from by decide +kernel) ▸ h)

theorem lines20 : True := by
  k_with_none
  k_with "k_ne" => (first | with_reducible assumption | exact Ne.symm (by with_reducible assumption) | exact ne_gt (by with_reducible assumption) | exact ne_lt (by with_reducible assumption) | exact ne_gt (cj0 (by with_reducible assumption)) | exact ne_lt (cj0 (by with_reducible assumption)) | exact ne_gt (cj1 (by with_reducible assumption)) | exact ne_lt (cj1 (by with_reducible assumption)) | exact ne_gt (cj2 (by with_reducible assumption)) | exact ne_lt (cj2 (by with_reducible assumption)) | exact ne_gt (cj3 (by with_reducible assumption)) | exact ne_lt (cj3 (by with_reducible assumption)) | exact ne_gt (cj4 (by with_reducible assumption)) | exact ne_lt (cj4 (by with_reducible assumption)) | exact ne_gt (cj5 (by with_reducible assumption)) | exact ne_lt (cj5 (by with_reducible assumption)) | exact ne_gt (cj6 (by with_reducible assumption)) | exact ne_lt (cj6 (by with_reducible assumption)) | exact ne_gt (cj7 (by with_reducible assumption)) | exact ne_lt (cj7 (by with_reducible assumption)) | exact ne_gt (cj8 (by with_reducible assumption)) | exact ne_lt (cj8 (by with_reducible assumption)) | exact ne_gt (cj9 (by with_reducible assumption)) | exact ne_lt (cj9 (by with_reducible assumption)) | exact ne_gt (cj10 (by with_reducible assumption)) | exact ne_lt (cj10 (by with_reducible assumption)) | exact ne_gt (cj11 (by with_reducible assumption)) | exact ne_lt (cj11 (by with_reducible assumption)) | exact ne_gt (cj12 (by with_reducible assumption)) | exact ne_lt (cj12 (by with_reducible assumption)) | exact ne_gt (cj13 (by with_reducible assumption)) | exact ne_lt (cj13 (by with_reducible assumption)) | exact ne_gt (cj14 (by with_reducible assumption)) | exact ne_lt (cj14 (by with_reducible assumption)) | exact ne_gt (cj15 (by with_reducible assumption)) | exact ne_lt (cj15 (by with_reducible assumption)) | exact ne_gt (cj16 (by with_reducible assumption)) | exact ne_lt (cj16 (by with_reducible assumption)) | exact ne_gt (cj17 (by with_reducible assumption)) | exact ne_lt (cj17 (by with_reducible assumption)) | exact ne_gt (cj18 (by with_reducible assumption)) | exact ne_lt (cj18 (by with_reducible assumption)) | exact ne_gt (cj19 (by with_reducible assumption)) | exact ne_lt (cj19 (by with_reducible assumption)) | exact ne_gt (cj20 (by with_reducible assumption)) | exact ne_lt (cj20 (by with_reducible assumption)) | exact ne_gt (cj21 (by with_reducible assumption)) | exact ne_lt (cj21 (by with_reducible assumption)) | exact ne_gt (cj22 (by with_reducible assumption)) | exact ne_lt (cj22 (by with_reducible assumption)) | exact ne_gt (cj23 (by with_reducible assumption)) | exact ne_lt (cj23 (by with_reducible assumption)) | exact ne_gt (cj24 (by with_reducible assumption)) | exact ne_lt (cj24 (by with_reducible assumption)) | exact ne_gt (cj25 (by with_reducible assumption)) | exact ne_lt (cj25 (by with_reducible assumption)) | exact ne_gt (ck1 (by with_reducible assumption)) | exact ne_lt (ck1 (by with_reducible assumption)) | exact ne_gt (ck2 (by with_reducible assumption)) | exact ne_lt (ck2 (by with_reducible assumption)) | exact ne_gt (ck3 (by with_reducible assumption)) | exact ne_lt (ck3 (by with_reducible assumption)) | exact ne_gt (ck4 (by with_reducible assumption)) | exact ne_lt (ck4 (by with_reducible assumption)) | exact ne_gt (ck5 (by with_reducible assumption)) | exact ne_lt (ck5 (by with_reducible assumption)) | exact ne_gt (ck6 (by with_reducible assumption)) | exact ne_lt (ck6 (by with_reducible assumption)) | exact ne_gt (ck7 (by with_reducible assumption)) | exact ne_lt (ck7 (by with_reducible assumption)) | exact ne_gt (ck8 (by with_reducible assumption)) | exact ne_lt (ck8 (by with_reducible assumption)) | exact ne_gt (ck9 (by with_reducible assumption)) | exact ne_lt (ck9 (by with_reducible assumption)) | exact ne_gt (ck10 (by with_reducible assumption)) | exact ne_lt (ck10 (by with_reducible assumption)) | exact ne_gt (ck11 (by with_reducible assumption)) | exact ne_lt (ck11 (by with_reducible assumption)) | exact ne_gt (ck12 (by with_reducible assumption)) | exact ne_lt (ck12 (by with_reducible assumption)) | exact ne_gt (ck13 (by with_reducible assumption)) | exact ne_lt (ck13 (by with_reducible assumption)) | exact ne_gt (ck14 (by with_reducible assumption)) | exact ne_lt (ck14 (by with_reducible assumption)) | exact ne_gt (ck15 (by with_reducible assumption)) | exact ne_lt (ck15 (by with_reducible assumption)) | exact ne_gt (ck16 (by with_reducible assumption)) | exact ne_lt (ck16 (by with_reducible assumption)) | exact ne_gt (ck17 (by with_reducible assumption)) | exact ne_lt (ck17 (by with_reducible assumption)) | exact ne_gt (ck18 (by with_reducible assumption)) | exact ne_lt (ck18 (by with_reducible assumption)) | exact ne_gt (ck19 (by with_reducible assumption)) | exact ne_lt (ck19 (by with_reducible assumption)) | exact ne_gt (ck20 (by with_reducible assumption)) | exact ne_lt (ck20 (by with_reducible assumption)) | exact ne_gt (ck21 (by with_reducible assumption)) | exact ne_lt (ck21 (by with_reducible assumption)) | exact ne_gt (ck22 (by with_reducible assumption)) | exact ne_lt (ck22 (by with_reducible assumption)) | exact ne_gt (ck23 (by with_reducible assumption)) | exact ne_lt (ck23 (by with_reducible assumption)) | exact ne_gt (ck24 (by with_reducible assumption)) | exact ne_lt (ck24 (by with_reducible assumption)) | exact ne_gt (ck25 (by with_reducible assumption)) | exact ne_lt (ck25 (by with_reducible assumption)))
  k_with "ktr_room" => (first | exact room2 (by with_reducible assumption) (by decide) | exact room1 (by with_reducible assumption) (by decide) | exact room0 (by with_reducible assumption) | exact room3 (by with_reducible assumption) (by decide))
  k_with "ktr_units" => (first | exact room2 (by with_reducible assumption) (by decide) | exact room1 (by with_reducible assumption) (by decide) | exact room0 (by with_reducible assumption) | exact room3 (by with_reducible assumption) (by decide))
  k_with "ke_room" => (first | exact room2 (by with_reducible assumption) (by decide) | exact room1 (by with_reducible assumption) (by decide) | exact room0 (by with_reducible assumption) | exact room3 (by with_reducible assumption) (by decide))
  k_with "binaryOp Pow int int" => (k_here; with_reducible refine pow_ten ?_)
  k_with "call ref" => (k_here; k_dflt (refine' take_ok (by (k_asm)) (by (k_asm)) (by (k_asm)) (by (k_asm)) (by (k_asm)) (by (first | exact rfl | assumption)) (by (k_updF)) (by (assumption)) (by (assumption)) (by (assumption)) (by (first | decide | omega)) (by (first | decide | omega)) (by (ktr_room)) (by (ktr_units)) ?_; intro v' tv' x' y' t' u' n' h' tk' hx' hy' hy2' hv' hv2' F' N'; (try dsimp only at N'); (try k_sweep); (try dsimp only); (try k_fold)))
  k_with "call ref" => (k_here; k_dflt (refine' one_int speedInt (by (k_asm)) (by (k_asm)) (by (k_asm)) (by (k_asm)) (by (k_asm)) (by (first | exact rfl | assumption)) (by (k_updF)) (by (assumption)) (by (assumption)) (by (assumption)) (by (k_mem)) (by (k_ne)) (by (exact Nat.le_of_ble_eq_true rfl)) (by (exact Nat.le_of_ble_eq_true rfl)) (by ((repeat (first | exact speed_nil | refine speed_cons (by first | decide | (constructor <;> omega)) ?_))); (fail_if_success exfalso)) (by (ktr_room)) (by (ktr_units)) ?_; intro v' tv' x' y' t' u' n' h' tk' hv' hx' hy' hy2' F' N'; (try dsimp only at N'); (obtain ⟨hv1', hv2'⟩ := hv'); (try k_sweep); (try dsimp only); (try k_fold)))
  k_with "call ref" => (k_here; k_dflt (refine' costL_ok (by (k_asm)) (by (k_asm)) (by (k_asm)) (by (k_asm)) (by (k_asm)) (by (first | exact rfl | assumption)) (by (assumption)) (by (assumption)) (by (ktr_room)) (by (ktr_units)) ?_; intro _ h' tk' F' N'; (try dsimp only at N'); (try k_sweep); (try dsimp only); (try k_fold)))
  k_with "call ref" => (k_here; k_dflt (refine' costS_ok (by (k_asm)) (by (k_asm)) (by (k_asm)) (by (k_asm)) (by (k_asm)) (by (first | exact rfl | assumption)) (by (assumption)) (by (ktr_room)) (by (ktr_units)) ?_; intro _ h' tk' F' N'; (try dsimp only at N'); (try k_sweep); (try dsimp only); (try k_fold)))
  k_with "call ref" => (k_here; k_dflt (refine' short_ok (by (k_asm)) (by (k_asm)) (by (k_asm)) (by (k_asm)) (by (k_asm)) (by (first | exact rfl | assumption)) (by (assumption)) (by (ktr_room)) (by (ktr_units)) ?_; intro _ h' tk' F' N'; (try dsimp only at N'); (try k_sweep); (try dsimp only); (try k_fold)))
  k_with "call ref" => (k_here; k_dflt (refine' size_ok (by (k_asm)) (by (k_asm)) (by (k_asm)) (by (k_asm)) (by (k_asm)) (by (first | exact rfl | assumption))  (by (ktr_room)) (by (ktr_units)) ?_; intro e' t' d' h' tk' off' F' N'; (try dsimp only at N'); (try k_sweep); (try dsimp only); (try k_fold)))
  exact True.intro
theorem size_Raise {M : Model} {A : Around} {E : Value → Shared → Prop} {s : Shared} {env : Env} {x : Expr} {pos : Pos} {Q : Flow → Shared → Prop} (hh : A.handled = none) (h : wpAny M A (eval x env) (RxRaised 51 oSize E) E s) : wpAny M A (exec (.Raise (some x) none pos) env) Q E s := rx_Raise (by decide) hh h
theorem lines21 : True := by
  k_with "exec Raise some none" => (k_here; k_dflt (refine size_Raise (by first | rfl | assumption) ?_))
  exact True.intro
theorem size_raised {w : World} {h₀ : Heap} {L e t dx : Addr} {E : Value → Shared → Prop} {s : Shared} {m : Str → Option Value} {news : List (Addr × Obj)} (X : (hd.heap_39 w.params).In h₀) (F : Fr h₀ L s.heap m) (N : News h₀ L s.heap ((e, excO 51 (some dx) t) :: news)) (h : E (.ref e) s) :
    RxRaised 51 oSize E (.ref e) s := ⟨e, t, _, rfl, X.keeps F.keep _ _ (size_in _), (N _ List.mem_cons_self).1, h⟩
theorem lines22 : True := by
  k_with "RxRaised" => (k_here; k_dflt (refine' size_raised (by (k_asm)) (by (k_asm)) (by (k_asm)) ?_; k_whole))
  k_with "leaving ref" => (k_here; k_dflt (refine' leave_rx (by (assumption)) (by (k_asm)) (by (k_asm)) (by (assumption)) ?_ (by (rfl)); k_whole); intro h' R' U'; (try dsimp only at R' U' ⊢))
  k_with "noteFrame ref" => (k_here; (rename RaisedS _ _ _ _ _ _ _ _ _ => rkX); (with_reducible show wpAny _ _ (noteFrame _ _) (fun _ s₂ => wpAny _ _ (setFlight _ none) (fun _ s₃ => wpAny _ _ (handleBy _ _ (ExceptHandler.ExceptHandler (some (Expr.Name _ _)) none _ _ :: _)) _ _ s₃) _ s₂) _ _); k_dflt (refine' caught_rx (C := 51) rkX (by (with_reducible assumption)) (by (with_reducible assumption)) (by (with_reducible assumption)) (by (with_reducible assumption)) (by (with_reducible assumption)) (by (k_is)) (by (exact size_in _)) (by (decide)) ?_; k_whole); intro h' g' F' K' X' T'; (try k_sweep))
  exact True.intro
theorem due_eq {v : Int} (hv : 1 ≤ v) : (20000000 - Int.fmod 20000000 v).fdiv v = Int.fdiv 20000000 v := by
  have e : 20000000 - Int.fmod 20000000 v = v * Int.fdiv 20000000 v := by have := Int.mul_fdiv_add_fmod 20000000 v; omega
  rw [e, Int.mul_fdiv_cancel_left _ (by omega)]
theorem due_ne {v : Int} (hv : 1 ≤ v) (h : longB v ≠ if (if (20000000 - Int.fmod 20000000 v).fdiv v < 200000000 then (20000000 - Int.fmod 20000000 v).fdiv v else 200000000) > 1 then (if (20000000 - Int.fmod 20000000 v).fdiv v < 200000000 then (20000000 - Int.fmod 20000000 v).fdiv v else 200000000) else 1) : False := by
  rw [longB_if, due_eq hv] at h
  exact h rfl
theorem ne_same {v : Int} (h : shortB v ≠ shortB v) : False := h rfl
theorem stays_of {A₀ : Around} {base g h : Heap} {outer : List Env} {L : Addr} {m : Str → Option Value} (F : Fr g L h m) (K : Below A₀ base outer g) : ∀ b o, base.get? b = some o → h.get? b = some o := fun b o e => F.keep b o (K.stays b o e)
section
variable {w : World} {mean : ExcName → Option Value} {mg mb : Str → Option Value} {dp un : Nat} {gd : Option (List Code)} {cn : Str} {cs : Scope} {a : Addr} {ccd : Value} {cl : List (Str × Addr)} {outer : List Env} {A₀ : Around} {base h₀ : Heap} {L : Addr} {m : Str → Option Value} {s : Shared} {Q E : Value → Shared → Prop}
  {news tl : List (Addr × Obj)} {src : Addr} {x y : Int} {t u tt : Tok} {n : Nat}
theorem costs_body (B : Below A₀ h₀ [] h₀) (F : Fr h₀ L s.heap m) (X : (hd.heap_39 w.params).In h₀) (N : News h₀ L s.heap ((src, srcO x y t u n) :: tl)) (T : Top MineHead.VW (looseW MineHead.VW []) mean mg mb h₀) (hk : cs.kind = .function)
    (hn : ∀ p ∈ tl, p.1 ≠ src) (hx : 0 ≤ x) (hy : 0 ≤ y) (hy2 : y < 2147483647) (hdp : dp + 5 < recursionLimit) (hu : un + 240 < cLine)
    (ret : ∀ (h' : Heap) (tk' : Nat), (∀ b o, h₀.get? b = some o → h'.get? b = some o) → Q (.bool true) { s with heap := h', toks := tk' }) :
    wpAny (model PySem.Challenge.rw_pb0537_01.row.prog w) (ktrTop dp un gd cn cs L a ccd cl []) (call (.ref 262) [.ref src]) Q E s := by
  revert X; k_fill; intro X
  refine wpAny_call ?_
  k_dflt (refine' code_any ?k1 ?k2 ?k3 ?k4 ?k5 ?kA ?kF ?kK ?k6 ?k7 ?k8 ?k9 ?kB ?_ ?c2 ?c3 ?c4 ?c5; (case kA => exact rfl); (case kF => exact rfl); (case kK => assumption); (case k1 => k_asm); (case k2 => k_asm); (case k3 => k_asm); (case k4 => k_asm); (case k5 => k_asm); (case k6 => k_is); (case k7 => k_is); (case k8 => ktr_room); (case k9 => exact BindsTo.of_eq rfl); (case c5 => decide); (case kB => exact locs rfl); (case c2 => exact rfl); (case c3 => exact rfl); (case c4 => exact rfl); k_whole)
  intro g' L' h' FG' F' N' B' X' T'
  (try dsimp only)
  (try k_lift B')
  (try k_fold)
  k_steps
  · exact (due_ne (by with_reducible assumption) (by with_reducible assumption)).elim
  · exact (ne_same (by with_reducible assumption)).elim
  exact ret _ _ (stays_of (by with_reducible assumption) (by with_reducible assumption))
theorem costs_ok (B : Below A₀ h₀ [] h₀) (F : Fr h₀ L s.heap m) (X : (hd.heap_39 w.params).In h₀) (N : News h₀ L s.heap news) (T : Top MineHead.VW (looseW MineHead.VW []) mean mg mb h₀) (hk : cs.kind = .function)
    {g : Obj → List (Addr × Obj)} (U : UpdF src (srcO x y t u n) news g) (hx : 0 ≤ x) (hy : 0 ≤ y) (hy2 : y < 2147483647) (hdp : dp + 5 < recursionLimit) (hu : un + 240 < cLine)
    (ret : ∀ (h' : Heap) (tk' : Nat), (∀ b o, h₀.get? b = some o → h'.get? b = some o) → Q (.bool true) { s with heap := h', toks := tk' }) :
    wpAny (model PySem.Challenge.rw_pb0537_01.row.prog w) (ktrTop dp un gd cn cs L a ccd cl []) (call (.ref 262) [.ref src]) Q E s := by
  obtain ⟨tl, hn, e1, _⟩ := updF_perm U
  exact costs_body B F X (fun p hp => N p ((e1 p).mpr hp)) T hk hn hx hy hy2 hdp hu ret
end

end
section
open PySem PySem.W PyProof.Rows PySem.Spec PySem.Calls
open PyProof.Rows.LCg
def Kept (keep : List (Addr × Obj)) (h : Heap) : Prop := ∀ p ∈ keep, h.get? p.1 = some p.2
theorem Kept.up {keep : List (Addr × Obj)} {h h' : Heap} (k : Kept keep h) (e : ∀ b o, h.get? b = some o → b ∈ keep.map (·.1) → h'.get? b = some o) : Kept keep h' := fun p hp => e _ _ (k p hp) (List.mem_map_of_mem hp)
/-- how the walked values compare, wherever the kept objects stand -/
def CmpKept (prog : Program) (w : World) (A : Around) (keep : List (Addr × Obj)) (P : Nat → Value → Prop) (bt : Nat → Nat → Bool) : Prop :=
  ∀ i j vi vj (s : Shared) (Q : Value → Shared → Prop) (E : Value → Shared → Prop), Kept keep s.heap → P i vi → P j vj → Q (.bool (bt i j)) s → wpAny (model prog w) A (richCompare .Lt vi vj) Q E s
section
variable {prog : Program} {w : World} {A : Around} {R : Result → Shared → Prop} {I : Addr} {fp wr : List Addr} {n : Nat} {P : Nat → Value → Prop} {St : Nat → Heap → Prop} {keep : List (Addr × Obj)}
theorem min_go (W : Walks prog w A.in1 I fp wr n P St) (bt : Nat → Nat → Bool) (hcmp : CmpKept prog w A.in1 keep P bt) (S : Addr) (hSf : S ∉ fp) (kw : ∀ b ∈ keep.map (·.1), b ∉ wr ∧ b ≠ S) :
    ∀ (k j : Nat) (s : Shared) (vb : Value) (c : Nat), n - (j + 1) = k → j + 1 ≤ n → St (j + 1) s.heap → Kept keep s.heap → P (argBest bt j) vb →
    s.heap.get? S = some { cls := .type "list", dict := none, data := .seq #[vb, vb] c, slots := #[] } →
    (∀ v h' tk, P (argBest bt (n - 1)) v → (∀ b o, b ∉ wr → b ≠ S → s.heap.get? b = some o → h'.get? b = some o) → R (.ok (.ret v)) { s with heap := h', toks := tk }) →
    codeAny (model prog w) A (.builtin "min.loop" ⟨[.ref I, .none, .ref S], []⟩) R s := by
  have hSw : S ∉ wr := fun h => hSf (W.sub _ h)
  have hname : (toString "min" ++ toString ".loop" : String) = "min.loop" := by decide
  intro k
  induction k with
  | zero =>
    intro j s vb c hk hj hst hK hPb hS hR
    have hin : j + 1 = n := by omega
    refine codeAny_builtin F.entry_min_loop ?_
    rw [Around.under_plainId F.plain_min_loop _]
    show wpAny _ A.in1 (seqItems? (.ref S) >>= _) _ _ s
    refine wpAny_bind (wpAny_seqItems hS rfl ?_)
    show wpAny _ A.in1 (tryCatch (pyNext (.ref I)) _ >>= _) _ _ s
    refine wpAny_bind (wpAny_tryCatch (W.done s _ _ (hin ▸ hst) fun h' tk hk' => ?_))
    have hS' := hk' S _ hSw hS
    show wpAny _ A.in1 (updateSeq S (fun _ => #[]) >>= _) _ _ _
    refine wpAny_bind ?_
    refine wpAny_updateSeq hS' rfl (wpAny_bind (wpAny_letGo (wpAny_pure ?_)))
    exact hR vb _ tk (by rw [← hin]; exact hPb) fun b o hbw hbS e => (Heap.get?_update_other _ _ (Ne.symm hbS)).trans (hk' b o hbw e)
  | succ k ih =>
    intro j s vb c hk hj hst hK hPb hS hR
    have hlt : j + 1 < n := by omega
    refine codeAny_builtin F.entry_min_loop ?_
    rw [Around.under_plainId F.plain_min_loop _]
    show wpAny _ A.in1 (seqItems? (.ref S) >>= _) _ _ s
    refine wpAny_bind (wpAny_seqItems hS rfl ?_)
    show wpAny _ A.in1 (tryCatch (pyNext (.ref I)) _ >>= _) _ _ s
    refine wpAny_bind (wpAny_tryCatch (W.item (j + 1) s _ _ hlt hst fun v h' tk hP hst' hk' => ?_))
    have hS' := hk' S _ hSw hS
    have hK' : Kept keep h' := hK.up fun b o e hb => hk' b o (kw b hb).1 e
    show wpAny _ A.in1 (tryCatch (holding [v, v] (richCompare .Lt v vb >>= _)) _ >>= _) _ _ _
    refine wpAny_bind (wpAny_tryCatch (wpAny_holding (wpAny_bind (hcmp (j + 1) (argBest bt j) v vb _ _ _ hK' hP hPb ?_))))
    refine wpAny_bind (wpAny_holding (wpAny_truthy_bool ?_))
    refine wpAny_bind (wpAny_letGo (wpAny_pure ?_))
    cases hb : bt (j + 1) (argBest bt j) with
    | true =>
      simp only [if_true]
      refine wpAny_bind ?_
      refine wpAny_updateSeq hS' rfl (wpAny_bind (wpAny_letGo ?_))
      rw [hname]
      refine wpAny_pure ⟨plainId_quiet F.plain_min_loop _, ih (j + 1) _ v _ (by omega) hlt (W.frame _ _ _ hst' fun b hbf o e => ?_) (hK'.up fun b o e hb => (Heap.get?_update_other _ _ (Ne.symm (kw b hb).2)).trans e) (by simp only [argBest, hb, if_true]; exact hP) (Heap.get?_update_self _ hS' rfl)
        fun v' h'' tk'' hP' hk'' => ?_⟩
      · exact (Heap.get?_update_other _ _ (fun h : S = b => hSf (by rw [h]; exact hbf))).trans e
      · exact hR v' h'' tk'' hP' fun b o hbw hbS e => hk'' b o hbw hbS ((Heap.get?_update_other _ _ (Ne.symm hbS)).trans (hk' b o hbw e))
    | false =>
      simp only [Bool.false_eq_true, if_false]
      refine wpAny_bind (wpAny_letGo ?_)
      rw [hname]
      refine wpAny_pure ⟨plainId_quiet F.plain_min_loop _, ih (j + 1) _ vb c (by omega) hlt hst' hK' (by simp only [argBest, hb, Bool.false_eq_true, if_false]; exact hPb) hS' fun v' h'' tk'' hP' hk'' => ?_⟩
      exact hR v' h'' tk'' hP' fun b o hbw hbS e => hk'' b o hbw hbS (hk' b o hbw e)
theorem min_first (W : Walks prog w A.in1 I fp wr n P St) (bt : Nat → Nat → Bool) (hcmp : CmpKept prog w A.in1 keep P bt) (S : Addr) (hSf : S ∉ fp) (kw : ∀ b ∈ keep.map (·.1), b ∉ wr ∧ b ≠ S) (hn : 0 < n) {s : Shared} {c : Nat} (hst : St 0 s.heap) (hK : Kept keep s.heap)
    (hS : s.heap.get? S = some { cls := .type "list", dict := none, data := .seq #[] c, slots := #[] })
    (hR : ∀ v h' tk, P (argBest bt (n - 1)) v → (∀ b o, b ∉ wr → b ≠ S → s.heap.get? b = some o → h'.get? b = some o) → R (.ok (.ret v)) { s with heap := h', toks := tk }) :
    codeAny (model prog w) A (.builtin "min.loop" ⟨[.ref I, .none, .ref S], []⟩) R s := by
  have hSw : S ∉ wr := fun h => hSf (W.sub _ h)
  have hname : (toString "min" ++ toString ".loop" : String) = "min.loop" := by decide
  refine codeAny_builtin F.entry_min_loop ?_
  rw [Around.under_plainId F.plain_min_loop _]
  show wpAny _ A.in1 (seqItems? (.ref S) >>= _) _ _ s
  refine wpAny_bind (wpAny_seqItems hS rfl ?_)
  show wpAny _ A.in1 (tryCatch (pyNext (.ref I)) _ >>= _) _ _ s
  refine wpAny_bind (wpAny_tryCatch (W.item 0 s _ _ hn hst fun v h' tk hP hst' hk' => ?_))
  have hS' := hk' S _ hSw hS
  have hK' : Kept keep h' := hK.up fun b o e hb => hk' b o (kw b hb).1 e
  show wpAny _ A.in1 (updateSeq S (fun _ => #[v, v]) >>= _) _ _ _
  refine wpAny_bind ?_
  refine wpAny_updateSeq hS' rfl ?_
  rw [hname]
  refine wpAny_pure ⟨plainId_quiet F.plain_min_loop _, min_go W bt hcmp S hSf kw _ 0 _ v _ rfl hn (W.frame _ _ _ hst' fun b hbf o e => ?_) (hK'.up fun b o e hb => (Heap.get?_update_other _ _ (Ne.symm (kw b hb).2)).trans e) hP (Heap.get?_update_self _ hS' rfl) fun v' h'' tk'' hP' hk'' => ?_⟩
  · exact (Heap.get?_update_other _ _ (fun h : S = b => hSf (by rw [h]; exact hbf))).trans e
  · exact hR v' h'' tk'' hP' fun b o hbw hbS e => hk'' b o hbw hbS ((Heap.get?_update_other _ _ (Ne.symm hbS)).trans (hk' b o hbw e))
end
section
variable {prog : Program} {w : World} {A : Around} {E : Value → Shared → Prop} {s : Shared} {keep : List (Addr × Obj)}
theorem call_min_kept {x : Value} {Q : Value → Shared → Prop}
    (h : wpAny (model prog w) A.in1 (pyIter x) (fun it s₂ => ∃ I fp wr n P St bt, it = .ref I ∧ Walks prog w A.in1 I fp wr n P St ∧ St 0 s₂.heap ∧ (∀ b ∈ fp, b < s₂.heap.objs.size) ∧ 0 < n ∧ CmpKept prog w A.in1 keep P bt ∧ Kept keep s₂.heap ∧ (∀ b ∈ keep.map (·.1), b ∉ wr) ∧
      ∀ v h' tk, P (argBest bt (n - 1)) v → (∀ b o, b ∉ wr → s₂.heap.get? b = some o → h'.get? b = some o) → Q v { s₂ with heap := h', toks := tk }) E s) :
    wpAny (model prog w) A (call (.builtin "min") [x]) Q E s := by
  have hname : (toString "min" ++ toString ".loop" : String) = "min.loop" := by decide
  refine call_function_tree F.kind_min F.plain_min F.entry_min (F.args_min1 _) ?_
  show wpAny _ A.in1 (Builtin.Builtins.bindParams "min" ["key", "default"] 0 ⟨[], []⟩ >>= _) _ _ s
  refine wpAny_bind (wpAny_of_eq (show Builtin.Builtins.bindParams "min" ["key", "default"] 0 ⟨[], []⟩ = pure [none, none] from rfl) ?_)
  refine wpAny_bind (wpAny_pure ?_)
  refine wpAny_bind (wpAny_mono h (fun it s₂ h₂ => ?_) fun _ _ e => e)
  obtain ⟨I, fp, wr, n, P, St, bt, rfl, W, hst, hfp, hn, hcmp, hK, hkw, hQ⟩ := h₂
  refine wpAny_bind (wpAny_newObj_type ?_)
  have hSf : s₂.heap.objs.size ∉ fp := fun hm => Nat.lt_irrefl _ (hfp _ hm)
  rw [hname]
  refine wpAny_pure ⟨plainId_quiet F.plain_min_loop _, min_first W bt hcmp s₂.heap.objs.size hSf (fun b hb => ⟨hkw b hb, fun e => ?_⟩) hn (W.frame _ _ _ hst fun b _ o e => Heap.get?_push_of_some _ e) (hK.up fun b o e _ => Heap.get?_push_of_some _ e) (Heap.get?_push_size _ rfl) fun v h' tk hP hk => ?_⟩
  · obtain ⟨p, hp, hpe⟩ := List.mem_map.mp hb
    have h1 := Heap.lt_size (hK p hp)
    have h2 : p.1 = s₂.heap.objs.size := hpe.trans e
    exact Nat.lt_irrefl _ (h2 ▸ h1)
  · exact hQ v h' tk hP fun b o hbw e => hk b o hbw (Nat.ne_of_lt (Heap.lt_size e)) (Heap.get?_push_of_some _ e)
end

end
section
open PySem PySem.W PyProof.Rows PySem.Spec PySem.Calls
open PyProof.Rows.LCg
theorem lexL_irr : ∀ xs : List Int, lexL false xs xs = false
  | [] => rfl
  | x :: xs => by rw [lexL, if_pos rfl]; exact lexL_irr xs
theorem lexL_trans : ∀ {xs ys zs : List Int}, lexL false xs ys = true → lexL false ys zs = true → lexL false xs zs = true
  | [], _, _, h, _ => by simp [lexL] at h
  | _ :: _, [], _, h, _ => by simp [lexL] at h
  | _ :: _, _ :: _, [], _, h => by simp [lexL] at h
  | x :: xs, y :: ys, z :: zs, h1, h2 => by
    simp only [lexL] at h1 h2 ⊢
    by_cases e1 : x = y
    · rw [if_pos e1] at h1
      by_cases e2 : y = z
      · rw [if_pos e2] at h2
        rw [if_pos (e1.trans e2)]
        exact lexL_trans h1 h2
      · rw [if_neg e2] at h2
        rw [if_neg (e1 ▸ e2), e1]; exact h2
    · rw [if_neg e1] at h1
      have l1 := of_decide_eq_true h1
      by_cases e2 : y = z
      · rw [if_neg (e2 ▸ e1), ← e2]; exact h1
      · rw [if_neg e2] at h2
        have l2 := of_decide_eq_true h2
        rw [if_neg (by omega)]
        exact decide_eq_true (by omega)
theorem argBest_min {bt : Nat → Nat → Bool} (irr : ∀ i, bt i i = false) (tr : ∀ i j k, bt i j = true → bt j k = true → bt i k = true) : ∀ (k : Nat), argBest bt k ≤ k ∧ ∀ i ≤ k, bt i (argBest bt k) = false
  | 0 => ⟨Nat.le_refl _, fun i hi => by rw [Nat.le_zero.mp hi]; exact irr 0⟩
  | k + 1 => by
    obtain ⟨h0, ih⟩ := argBest_min irr tr k
    rw [argBest]
    cases hb : bt (k + 1) (argBest bt k) with
    | true =>
      simp only [if_true]
      refine ⟨Nat.le_refl _, fun i hi => ?_⟩
      by_cases e : i = k + 1
      · rw [e]; exact irr _
      · cases hc : bt i (k + 1) with
        | false => rfl
        | true => have := tr _ _ _ hc hb; rw [ih i (by omega)] at this; cases this
    | false =>
      simp only [Bool.false_eq_true, if_false]
      refine ⟨by omega, fun i hi => ?_⟩
      by_cases e : i = k + 1
      · rw [e]; exact hb
      · exact ih i (by omega)
def vec0 : Vec := ⟨0, 0, 0, 0, 0, 0, 0⟩
abbrev vecData (d : Vec) : PyData := .tuple [.tuple [.int d.r0, .int d.r1], .int d.c, .tuple [.int d.b0, .int d.b1], .tuple [.int d.p0, .int d.p1]]
theorem vec_reads {vl : List (Addr × Obj)} {h : Heap} {a : Addr} {d : Vec} (K : Kept vl h) (V : VecIn vl a d) : Reads h (.ref a) (vecData d) [] := by
  obtain ⟨r, b, p, t0, t1, t2, t3, t4, t5, t6, m1, m2, m3, m4⟩ := V
  have two : ∀ {c : Addr} {i j : Int} {t u : Tok}, (c, tupO [.int i t, .int j u]) ∈ vl → Reads h (.ref c) (.tuple [.int i, .int j]) [] := fun hm =>
    .tuple (K _ hm) rfl rfl (.cons (as := []) (bs := []) (.int _ _) (.cons (as := []) (bs := []) (.int _ _) .nil))
  exact .tuple (K _ m1) rfl rfl (.cons (as := []) (bs := []) (two m2) (.cons (as := []) (bs := []) (.int _ _) (.cons (as := []) (bs := []) (two m3) (.cons (as := []) (bs := []) (two m4) .nil))))
theorem Vecs.at {vl : List (Addr × Obj)} : ∀ {ys : List Value} {ds : List Vec} {i : Nat} {v : Value}, Vecs vl ys ds → ys[i]? = some v → ∃ a d, v = .ref a ∧ ds[i]? = some d ∧ VecIn vl a d
  | [], _, _, _, _, h => by simp at h
  | _ :: _, [], _, _, x, _ => x.elim
  | _ :: _, d :: _, 0, v, ⟨⟨a, e, V⟩, _⟩, h => ⟨a, d, by simp at h; rw [← h, e], rfl, V⟩
  | _ :: ys, _ :: ds, i + 1, v, ⟨_, r⟩, h => by
    have h' : ys[i]? = some v := by simpa using h
    obtain ⟨a, d, e, hd, V⟩ := Vecs.at r h'
    exact ⟨a, d, e, by simpa using hd, V⟩
theorem Vecs.len {vl : List (Addr × Obj)} : ∀ {ys : List Value} {ds : List Vec}, Vecs vl ys ds → ys.length = ds.length
  | [], [], _ => rfl
  | _ :: _, _ :: _, ⟨_, r⟩ => by simp [Vecs.len r]
  | [], _ :: _, x => x.elim
  | _ :: _, [], x => x.elim
section
variable {prog : Program} {w : World} {A : Around} {E : Value → Shared → Prop} {s : Shared} {h₀ : Heap} {L D : Addr} {m : Str → Option Value} {news vl : List (Addr × Obj)} {ys : List Value} {ds : List Vec} {Q : Value → Shared → Prop}
theorem min_vecs (hh : A.handled = none) (hu : A.in1.units + 64 < cLine) (F : Fr h₀ L s.heap m) (N : News h₀ L s.heap news) (hm : (D, lst ys) ∈ news) (V : Vecs vl ys ds) (hvl : ∀ p ∈ vl, p ∈ news) (hl : 0 < ys.length)
    (h : ∀ (i : Nat) (v : Value) (d : Vec) (h' : Heap) (tk : Nat), ys[i]? = some v → ds[i]? = some d → (∀ e : Vec, e ∈ ds → lexL false e.parts d.parts = false) → Fr h₀ L h' m → News h₀ L h' news → Q v { s with heap := h', toks := tk }) :
    wpAny (model prog w) A (call (.builtin "min") [.ref D]) Q E s := by
  have hlist : s.heap.IsList D ys.toArray := ⟨_, (N _ hm).1, rfl, _, rfl⟩
  have hlt : D < s.heap.objs.size := Heap.lt_size (N _ hm).1
  have up : ∀ b o, s.heap.get? b = some o → (s.heap.push { cls := .type "list_iterator", data := .fields #[.ref D, .int 0 0] }).get? b = some o := fun b o e => Heap.get?_push_of_some _ e
  have nw : ∀ p ∈ news, p.1 ≠ s.heap.objs.size := fun p hp => Nat.ne_of_lt (Heap.lt_size (N p hp).1)
  refine call_min_kept (keep := vl) (wpAny_pyIter_list hlist ?_)
  refine ⟨s.heap.objs.size, [s.heap.objs.size, D], [s.heap.objs.size], ys.toArray.size, fun i v => ys.toArray[i]? = some v, fun i h => h.IsListIter s.heap.objs.size D i ∧ h.IsList D ys.toArray, fun i j => lexL false ((ds[i]?.getD vec0).parts) ((ds[j]?.getD vec0).parts), rfl, Walks.list (A := A.in1) hh s.heap.objs.size D (Nat.ne_of_lt hlt) ys.toArray, ⟨⟨_, Heap.get?_push_size _ rfl, rfl, rfl⟩, hlist.push _⟩, fun b hb => ?_, by simpa using hl, ?_, fun p hp => up _ _ (N p (hvl p hp)).1, fun b hb => ?_, fun v h' tk hP hk => ?_⟩
  · show b < (s.heap.push _).objs.size
    rw [Heap.size_push]
    rcases List.mem_cons.mp hb with rfl | hb
    · exact Nat.lt_succ_self _
    · rw [List.mem_singleton.mp hb]; exact Nat.lt_succ_of_lt hlt
  · intro i j vi vj s' Q' E' hK hi hj hQ
    have hi' : ys[i]? = some vi := by simpa using hi
    have hj' : ys[j]? = some vj := by simpa using hj
    obtain ⟨a, d, rfl, hd, Va⟩ := V.at hi'
    obtain ⟨b, e, rfl, he, Vb⟩ := V.at hj'
    refine lt_dataT (vec_reads hK Va) (vec_reads hK Vb) rfl rfl hu rfl ?_
    rw [lexT_vec]
    simp only [hd, he, Option.getD_some] at hQ
    exact hQ
  · obtain ⟨p, hp, hpe⟩ := List.mem_map.mp hb
    intro hm'
    exact nw p (hvl p hp) (hpe.trans (List.mem_singleton.mp hm'))
  · have hP' : ys[argBest (fun i j => lexL false (ds[i]?.getD vec0).parts (ds[j]?.getD vec0).parts) (ys.toArray.size - 1)]? = some v := by
      have hP2 := hP
      dsimp only at hP2
      rw [List.getElem?_toArray] at hP2
      exact hP2
    obtain ⟨a, d, rfl, hd, Va⟩ := V.at hP'
    refine h _ _ d h' tk hP' hd (fun e he => ?_) (fr_but (F.keeps up) (fun b o hb e => hk b o hb e) (Nat.ne_of_lt F.ns.lt) (next_is_new F)) (news_but (N.grown up) (fun b o hb e => hk b o hb e) nw)
    obtain ⟨i, hi⟩ := List.mem_iff_getElem?.mp he
    have mn := (argBest_min (bt := fun i j => lexL false ((ds[i]?.getD vec0).parts) ((ds[j]?.getD vec0).parts)) (fun i => lexL_irr _) (fun i j k h1 h2 => lexL_trans h1 h2) (ys.toArray.size - 1)).2 i (by
      have := (List.getElem?_eq_some_iff.mp hi).1
      have := V.len
      rw [List.size_toArray]; omega)
    simp only [hi, hd, Option.getD_some] at mn
    exact mn
end

end
section
open PySem PySem.W PyProof.Rows PySem.Spec PySem.Calls
open PyProof.Rows.LCg
set_option maxRecDepth 100000
set_option maxHeartbeats 8000000
theorem len_lst {prog : Program} {w : World} {A : Around} {E : Value → Shared → Prop} {s : Shared} {h₀ : Heap} {L D : Addr} {news : List (Addr × Obj)} {ys : List Value} {Q : Value → Shared → Prop} (N : News h₀ L s.heap news) (hm : (D, lst ys) ∈ news) (h6 : ys.length ≤ 6)
    (h : Q (.int (ys.length : Int) (s.toks + 1)) { s with toks := s.toks + 1 + 1 }) : wpAny (model prog w) A (call (.builtin "len") [.ref D]) Q E s :=
  len_list (items := ys.toArray) ⟨_, (N _ hm).1, rfl, _, rfl⟩ (by rw [List.size_toArray]; omega) (by rw [List.size_toArray]; exact h)

theorem lines23 : True := by
  k_with_none
  k_with "k_ne" => (first | with_reducible assumption | exact Ne.symm (by with_reducible assumption) | exact ne_gt (by with_reducible assumption) | exact ne_lt (by with_reducible assumption) | exact ne_gt (cj0 (by with_reducible assumption)) | exact ne_lt (cj0 (by with_reducible assumption)) | exact ne_gt (cj1 (by with_reducible assumption)) | exact ne_lt (cj1 (by with_reducible assumption)) | exact ne_gt (cj2 (by with_reducible assumption)) | exact ne_lt (cj2 (by with_reducible assumption)) | exact ne_gt (cj3 (by with_reducible assumption)) | exact ne_lt (cj3 (by with_reducible assumption)) | exact ne_gt (cj4 (by with_reducible assumption)) | exact ne_lt (cj4 (by with_reducible assumption)) | exact ne_gt (cj5 (by with_reducible assumption)) | exact ne_lt (cj5 (by with_reducible assumption)) | exact ne_gt (cj6 (by with_reducible assumption)) | exact ne_lt (cj6 (by with_reducible assumption)) | exact ne_gt (cj7 (by with_reducible assumption)) | exact ne_lt (cj7 (by with_reducible assumption)) | exact ne_gt (cj8 (by with_reducible assumption)) | exact ne_lt (cj8 (by with_reducible assumption)) | exact ne_gt (cj9 (by with_reducible assumption)) | exact ne_lt (cj9 (by with_reducible assumption)) | exact ne_gt (cj10 (by with_reducible assumption)) | exact ne_lt (cj10 (by with_reducible assumption)) | exact ne_gt (cj11 (by with_reducible assumption)) | exact ne_lt (cj11 (by with_reducible assumption)) | exact ne_gt (cj12 (by with_reducible assumption)) | exact ne_lt (cj12 (by with_reducible assumption)) | exact ne_gt (cj13 (by with_reducible assumption)) | exact ne_lt (cj13 (by with_reducible assumption)) | exact ne_gt (cj14 (by with_reducible assumption)) | exact ne_lt (cj14 (by with_reducible assumption)) | exact ne_gt (cj15 (by with_reducible assumption)) | exact ne_lt (cj15 (by with_reducible assumption)) | exact ne_gt (cj16 (by with_reducible assumption)) | exact ne_lt (cj16 (by with_reducible assumption)) | exact ne_gt (cj17 (by with_reducible assumption)) | exact ne_lt (cj17 (by with_reducible assumption)) | exact ne_gt (cj18 (by with_reducible assumption)) | exact ne_lt (cj18 (by with_reducible assumption)) | exact ne_gt (cj19 (by with_reducible assumption)) | exact ne_lt (cj19 (by with_reducible assumption)) | exact ne_gt (cj20 (by with_reducible assumption)) | exact ne_lt (cj20 (by with_reducible assumption)) | exact ne_gt (cj21 (by with_reducible assumption)) | exact ne_lt (cj21 (by with_reducible assumption)) | exact ne_gt (cj22 (by with_reducible assumption)) | exact ne_lt (cj22 (by with_reducible assumption)) | exact ne_gt (cj23 (by with_reducible assumption)) | exact ne_lt (cj23 (by with_reducible assumption)) | exact ne_gt (cj24 (by with_reducible assumption)) | exact ne_lt (cj24 (by with_reducible assumption)) | exact ne_gt (cj25 (by with_reducible assumption)) | exact ne_lt (cj25 (by with_reducible assumption)) | exact ne_gt (ck1 (by with_reducible assumption)) | exact ne_lt (ck1 (by with_reducible assumption)) | exact ne_gt (ck2 (by with_reducible assumption)) | exact ne_lt (ck2 (by with_reducible assumption)) | exact ne_gt (ck3 (by with_reducible assumption)) | exact ne_lt (ck3 (by with_reducible assumption)) | exact ne_gt (ck4 (by with_reducible assumption)) | exact ne_lt (ck4 (by with_reducible assumption)) | exact ne_gt (ck5 (by with_reducible assumption)) | exact ne_lt (ck5 (by with_reducible assumption)) | exact ne_gt (ck6 (by with_reducible assumption)) | exact ne_lt (ck6 (by with_reducible assumption)) | exact ne_gt (ck7 (by with_reducible assumption)) | exact ne_lt (ck7 (by with_reducible assumption)) | exact ne_gt (ck8 (by with_reducible assumption)) | exact ne_lt (ck8 (by with_reducible assumption)) | exact ne_gt (ck9 (by with_reducible assumption)) | exact ne_lt (ck9 (by with_reducible assumption)) | exact ne_gt (ck10 (by with_reducible assumption)) | exact ne_lt (ck10 (by with_reducible assumption)) | exact ne_gt (ck11 (by with_reducible assumption)) | exact ne_lt (ck11 (by with_reducible assumption)) | exact ne_gt (ck12 (by with_reducible assumption)) | exact ne_lt (ck12 (by with_reducible assumption)) | exact ne_gt (ck13 (by with_reducible assumption)) | exact ne_lt (ck13 (by with_reducible assumption)) | exact ne_gt (ck14 (by with_reducible assumption)) | exact ne_lt (ck14 (by with_reducible assumption)) | exact ne_gt (ck15 (by with_reducible assumption)) | exact ne_lt (ck15 (by with_reducible assumption)) | exact ne_gt (ck16 (by with_reducible assumption)) | exact ne_lt (ck16 (by with_reducible assumption)) | exact ne_gt (ck17 (by with_reducible assumption)) | exact ne_lt (ck17 (by with_reducible assumption)) | exact ne_gt (ck18 (by with_reducible assumption)) | exact ne_lt (ck18 (by with_reducible assumption)) | exact ne_gt (ck19 (by with_reducible assumption)) | exact ne_lt (ck19 (by with_reducible assumption)) | exact ne_gt (ck20 (by with_reducible assumption)) | exact ne_lt (ck20 (by with_reducible assumption)) | exact ne_gt (ck21 (by with_reducible assumption)) | exact ne_lt (ck21 (by with_reducible assumption)) | exact ne_gt (ck22 (by with_reducible assumption)) | exact ne_lt (ck22 (by with_reducible assumption)) | exact ne_gt (ck23 (by with_reducible assumption)) | exact ne_lt (ck23 (by with_reducible assumption)) | exact ne_gt (ck24 (by with_reducible assumption)) | exact ne_lt (ck24 (by with_reducible assumption)) | exact ne_gt (ck25 (by with_reducible assumption)) | exact ne_lt (ck25 (by with_reducible assumption)))
  k_with "ktr_room" => (first | exact room2 (by with_reducible assumption) (by decide) | exact room1 (by with_reducible assumption) (by decide) | exact room0 (by with_reducible assumption) | exact room3 (by with_reducible assumption) (by decide))
  k_with "ktr_units" => (first | exact room2 (by with_reducible assumption) (by decide) | exact room1 (by with_reducible assumption) (by decide) | exact room0 (by with_reducible assumption) | exact room3 (by with_reducible assumption) (by decide))
  k_with "ke_room" => (first | exact room2 (by with_reducible assumption) (by decide) | exact room1 (by with_reducible assumption) (by decide) | exact room0 (by with_reducible assumption) | exact room3 (by with_reducible assumption) (by decide))
  k_with "call builtin:len" => (k_here; k_dflt (refine' len_lst (by (k_asm)) (by (k_mem)) (by (assumption)) ?_; k_whole))
  k_with "call builtin:min" => (k_here; k_dflt (refine' min_vecs (by (rfl)) (by (ke_room)) (by (k_asm)) (by (k_asm)) (by (k_mem)) (by (assumption)) (by (assumption)) (by (assumption)) ?_; k_whole); intro i' v' d' h' tk' hi' hd' hmin' F' N'; (obtain ⟨a', d2', he', hd2', hv'⟩ := Vecs.at (by assumption) hi'); subst he'; (have hdd := Option.some.inj (hd'.symm.trans hd2')); subst hdd)
  exact True.intro
section
variable {w : World} {mean : ExcName → Option Value} {mg mb : Str → Option Value} {dp un : Nat} {gd : Option (List Code)} {cn : Str} {cs : Scope} {a : Addr} {ccd : Value} {cl : List (Str × Addr)} {outer : List Env} {A₀ : Around} {base h₀ : Heap} {L : Addr} {m : Str → Option Value} {s : Shared} {Q E : Value → Shared → Prop}
  {news tl : List (Addr × Obj)} {src : Addr} {x y : Int} {t u tt : Tok} {n : Nat}
  {D : Addr} {vl : List (Addr × Obj)} {ys : List Value} {ds : List Vec}
theorem best_ok (B : Below A₀ base outer h₀) (F : Fr h₀ L s.heap m) (X : (hd.heap_39 w.params).In h₀) (N : News h₀ L s.heap news) (T : Top MineHead.VW (looseW MineHead.VW []) mean mg mb h₀) (hk : cs.kind = .function) (hm : (D, lst ys) ∈ news) (V : Vecs vl ys ds) (hvl : ∀ p ∈ vl, p ∈ news) (hl : 0 < ys.length) (hl6 : ys.length ≤ 6) (hdp : dp + 2 < recursionLimit) (hu : un + 210 < cLine)
    (ret : ∀ (i : Nat) (a' : Addr) (d : Vec) (h' : Heap) (tk' : Nat), ys[i]? = some (.ref a') → VecIn vl a' d → ds[i]? = some d → (∀ e : Vec, e ∈ ds → lexL false e.parts d.parts = false) → Fr h₀ L h' m → News h₀ L h' news → Q (.ref a') { s with heap := h', toks := tk' }) :
    wpAny (model PySem.Challenge.rw_pb0537_01.row.prog w) (ktrTop dp un gd cn cs L a ccd cl outer) (call (.ref 81) [.ref D]) Q E s := by
  revert X; k_fill; intro X
  refine wpAny_call ?_
  k_dflt cell_enter
  k_steps
  exact ret _ _ _ _ _ (by assumption) (by assumption) (by assumption) (by assumption) (by assumption) (by assumption)
end

end
section
open PySem PySem.W PyProof.Rows PySem.Spec PySem.Calls
open PyProof.Rows.LCg
theorem vecs_reads {vl : List (Addr × Obj)} {h : Heap} (K : Kept vl h) : ∀ {ys : List Value} {ds : List Vec}, Vecs vl ys ds → ReadsAll h ys (ds.map vecData) []
  | [], [], _ => .nil
  | v :: ys, d :: ds, ⟨⟨a, e, V⟩, r⟩ => by
    subst e
    exact .cons (as := []) (bs := []) (vec_reads K V) (vecs_reads K r)
  | [], _ :: _, x => x.elim
  | _ :: _, [], x => x.elim
section
variable {prog : Program} {w : World} {A : Around} {E : Value → Shared → Prop} {s : Shared} {h₀ : Heap} {L D a : Addr} {news vl : List (Addr × Obj)} {ys : List Value} {ds : List Vec} {d : Vec} {i : Nat} {Q : Value → Shared → Prop}
theorem canLay_vecs : ∀ ds : List Vec, PyData.canLayAll0 (ds.map vecData) = true
  | [] => rfl
  | d :: ds => by
    show PyData.canLayAll0 (vecData d :: ds.map vecData) = true
    rw [PyData.canLayAll0, canLay_vecs ds]; rfl
theorem depth_vecs (d : Vec) : (vecData d).depth ≤ 4 := by
  simp [PyData.depth, PyData.depthAll]
theorem notin_vecs (hu : A.units + 64 < cLine) (N : News h₀ L s.heap news) (hm : (D, lst ys) ∈ news) (V : Vecs vl ys ds) (hvl : ∀ p ∈ vl, p ∈ news) (Va : VecIn vl a d) (hd : ds[i]? = some d) (h : Q (.bool false) s) :
    wpAny (model prog w) A (compareOp .NotIn (.ref a) (.ref D)) Q E s := by
  have K : Kept vl s.heap := fun p hp => (N p (hvl p hp)).1
  have rl : Reads s.heap (.ref D) (.list (ds.map vecData)) [D] := .list (vs := ys.toArray) (N _ hm).1 rfl rfl (by simpa using vecs_reads K V)
  refine SeqAt.notIn_list_reads rl (vec_reads K Va) (canLay_vecs ds) rfl ?_ ?_
  · have := depth_vecs d
    have : min (PyData.depthAll (ds.map vecData)) (vecData d).depth ≤ 4 := Nat.le_trans (Nat.min_le_right _ _) this
    omega
  · have e : ((ds.map vecData).any fun y => PyData.eqv y (vecData d)) = true := by
      rw [List.any_eq_true]
      exact ⟨vecData d, List.mem_map.mpr ⟨d, List.mem_of_getElem? hd, rfl⟩, by rw [eqv_vec]; simp⟩
    rw [e]; exact h
end

end
section
open PySem PySem.W PyProof.Rows PySem.Spec PySem.Calls
open PyProof.Rows.LCg PyProof.Rows.LCt
section
variable {prog : Program} {w : World} {A : Around} {h₀ : Heap} {L : Addr} {m : Str → Option Value} {env : Env} {ct elt : PySem.Expr} {xn : Str} {scope : Scope} {cl : List (Str × Addr)} {s : Shared} {Fin : List Value → List (Addr × Obj) → Prop} {news vl : List (Addr × Obj)} {ax : Addr} {ys : List Value} {ds : List Vec}
/-- the test says no of every vector -/
def NoStep (prog : Program) (w : World) (A : Around) (h₀ : Heap) (L : Addr) (m : Str → Option Value) (env : Env) (ct : PySem.Expr) (xn : Str) (scope : Scope) (cl : List (Str × Addr)) (s : Shared) (news vl : List (Addr × Obj)) (ds : List Vec) : Prop :=
  ∀ (I C D a : Addr) (d : Vec) (oI oC : Obj) (m₂ : Str → Option Value) (h : Heap) (tk : Nat) (Q : Bool → Shared → Prop) (E' : Value → Shared → Prop),
    VecIn vl a d → d ∈ ds → NsObj oC m₂ → m₂ xn = some (.ref a) → Fr h₀ L h m → News h₀ L h ((I, oI) :: (C, oC) :: (D, lst []) :: news) → Off3 I C D news →
    (∀ h' tk', Fr h₀ L h' m → News h₀ L h' ((I, oI) :: (C, oC) :: (D, lst []) :: news) → Q false { s with heap := h', toks := tk' }) →
    wpAny (model prog w) A (isTrue ct (compEnvC scope cl C env) (eval ct (compEnvC scope cl C env))) Q E' { s with heap := h, toks := tk }
theorem filt_none (hax : SrcAt h₀ ax ys.toArray news) (V : Vecs vl ys ds) (step : NoStep prog w A h₀ L m env ct xn scope cl s news vl ds) (fin : Fin [] news) :
    ∀ (k i : Nat), CompRestT prog w A h₀ L m env ct elt xn scope cl s (SrcAt h₀ ax ys.toArray) (fun i v => ys.toArray[i]? = some v) Fin k i [] news
  | 0, _ => fin
  | k + 1, i => by
    refine CompRestT.succ fun v I oI C oC D m₂ h tk E' hv hC hx F N off ne => ?_
    have hv' : ys[i]? = some v := by simpa using hv
    obtain ⟨a, d, rfl, hd, Va⟩ := V.at hv'
    refine step I C D a d oI oC m₂ h tk _ E' Va (List.mem_of_getElem? hd) hC hx F N off fun h' tk' F' N' => ?_
    simp only [Bool.false_eq_true, if_false]
    exact ⟨h', tk', news, rfl, F', N', off, hax, filt_none hax V step fin k (i + 1)⟩
end

end
section
open PySem PySem.W PyProof.Rows PySem.Spec PySem.Calls
open PyProof.Rows.LCg
set_option maxRecDepth 100000
set_option maxHeartbeats 8000000

theorem lines24 : True := by
  k_with_none
  k_with "k_ne" => (first | with_reducible assumption | exact Ne.symm (by with_reducible assumption) | exact ne_gt (by with_reducible assumption) | exact ne_lt (by with_reducible assumption) | exact ne_gt (cj0 (by with_reducible assumption)) | exact ne_lt (cj0 (by with_reducible assumption)) | exact ne_gt (cj1 (by with_reducible assumption)) | exact ne_lt (cj1 (by with_reducible assumption)) | exact ne_gt (cj2 (by with_reducible assumption)) | exact ne_lt (cj2 (by with_reducible assumption)) | exact ne_gt (cj3 (by with_reducible assumption)) | exact ne_lt (cj3 (by with_reducible assumption)) | exact ne_gt (cj4 (by with_reducible assumption)) | exact ne_lt (cj4 (by with_reducible assumption)) | exact ne_gt (cj5 (by with_reducible assumption)) | exact ne_lt (cj5 (by with_reducible assumption)) | exact ne_gt (cj6 (by with_reducible assumption)) | exact ne_lt (cj6 (by with_reducible assumption)) | exact ne_gt (cj7 (by with_reducible assumption)) | exact ne_lt (cj7 (by with_reducible assumption)) | exact ne_gt (cj8 (by with_reducible assumption)) | exact ne_lt (cj8 (by with_reducible assumption)) | exact ne_gt (cj9 (by with_reducible assumption)) | exact ne_lt (cj9 (by with_reducible assumption)) | exact ne_gt (cj10 (by with_reducible assumption)) | exact ne_lt (cj10 (by with_reducible assumption)) | exact ne_gt (cj11 (by with_reducible assumption)) | exact ne_lt (cj11 (by with_reducible assumption)) | exact ne_gt (cj12 (by with_reducible assumption)) | exact ne_lt (cj12 (by with_reducible assumption)) | exact ne_gt (cj13 (by with_reducible assumption)) | exact ne_lt (cj13 (by with_reducible assumption)) | exact ne_gt (cj14 (by with_reducible assumption)) | exact ne_lt (cj14 (by with_reducible assumption)) | exact ne_gt (cj15 (by with_reducible assumption)) | exact ne_lt (cj15 (by with_reducible assumption)) | exact ne_gt (cj16 (by with_reducible assumption)) | exact ne_lt (cj16 (by with_reducible assumption)) | exact ne_gt (cj17 (by with_reducible assumption)) | exact ne_lt (cj17 (by with_reducible assumption)) | exact ne_gt (cj18 (by with_reducible assumption)) | exact ne_lt (cj18 (by with_reducible assumption)) | exact ne_gt (cj19 (by with_reducible assumption)) | exact ne_lt (cj19 (by with_reducible assumption)) | exact ne_gt (cj20 (by with_reducible assumption)) | exact ne_lt (cj20 (by with_reducible assumption)) | exact ne_gt (cj21 (by with_reducible assumption)) | exact ne_lt (cj21 (by with_reducible assumption)) | exact ne_gt (cj22 (by with_reducible assumption)) | exact ne_lt (cj22 (by with_reducible assumption)) | exact ne_gt (cj23 (by with_reducible assumption)) | exact ne_lt (cj23 (by with_reducible assumption)) | exact ne_gt (cj24 (by with_reducible assumption)) | exact ne_lt (cj24 (by with_reducible assumption)) | exact ne_gt (cj25 (by with_reducible assumption)) | exact ne_lt (cj25 (by with_reducible assumption)) | exact ne_gt (ck1 (by with_reducible assumption)) | exact ne_lt (ck1 (by with_reducible assumption)) | exact ne_gt (ck2 (by with_reducible assumption)) | exact ne_lt (ck2 (by with_reducible assumption)) | exact ne_gt (ck3 (by with_reducible assumption)) | exact ne_lt (ck3 (by with_reducible assumption)) | exact ne_gt (ck4 (by with_reducible assumption)) | exact ne_lt (ck4 (by with_reducible assumption)) | exact ne_gt (ck5 (by with_reducible assumption)) | exact ne_lt (ck5 (by with_reducible assumption)) | exact ne_gt (ck6 (by with_reducible assumption)) | exact ne_lt (ck6 (by with_reducible assumption)) | exact ne_gt (ck7 (by with_reducible assumption)) | exact ne_lt (ck7 (by with_reducible assumption)) | exact ne_gt (ck8 (by with_reducible assumption)) | exact ne_lt (ck8 (by with_reducible assumption)) | exact ne_gt (ck9 (by with_reducible assumption)) | exact ne_lt (ck9 (by with_reducible assumption)) | exact ne_gt (ck10 (by with_reducible assumption)) | exact ne_lt (ck10 (by with_reducible assumption)) | exact ne_gt (ck11 (by with_reducible assumption)) | exact ne_lt (ck11 (by with_reducible assumption)) | exact ne_gt (ck12 (by with_reducible assumption)) | exact ne_lt (ck12 (by with_reducible assumption)) | exact ne_gt (ck13 (by with_reducible assumption)) | exact ne_lt (ck13 (by with_reducible assumption)) | exact ne_gt (ck14 (by with_reducible assumption)) | exact ne_lt (ck14 (by with_reducible assumption)) | exact ne_gt (ck15 (by with_reducible assumption)) | exact ne_lt (ck15 (by with_reducible assumption)) | exact ne_gt (ck16 (by with_reducible assumption)) | exact ne_lt (ck16 (by with_reducible assumption)) | exact ne_gt (ck17 (by with_reducible assumption)) | exact ne_lt (ck17 (by with_reducible assumption)) | exact ne_gt (ck18 (by with_reducible assumption)) | exact ne_lt (ck18 (by with_reducible assumption)) | exact ne_gt (ck19 (by with_reducible assumption)) | exact ne_lt (ck19 (by with_reducible assumption)) | exact ne_gt (ck20 (by with_reducible assumption)) | exact ne_lt (ck20 (by with_reducible assumption)) | exact ne_gt (ck21 (by with_reducible assumption)) | exact ne_lt (ck21 (by with_reducible assumption)) | exact ne_gt (ck22 (by with_reducible assumption)) | exact ne_lt (ck22 (by with_reducible assumption)) | exact ne_gt (ck23 (by with_reducible assumption)) | exact ne_lt (ck23 (by with_reducible assumption)) | exact ne_gt (ck24 (by with_reducible assumption)) | exact ne_lt (ck24 (by with_reducible assumption)) | exact ne_gt (ck25 (by with_reducible assumption)) | exact ne_lt (ck25 (by with_reducible assumption)))
  k_with "ktr_room" => (first | exact room2 (by with_reducible assumption) (by decide) | exact room1 (by with_reducible assumption) (by decide) | exact room0 (by with_reducible assumption) | exact room3 (by with_reducible assumption) (by decide))
  k_with "ktr_units" => (first | exact room2 (by with_reducible assumption) (by decide) | exact room1 (by with_reducible assumption) (by decide) | exact room0 (by with_reducible assumption) | exact room3 (by with_reducible assumption) (by decide))
  k_with "ke_room" => (first | exact room2 (by with_reducible assumption) (by decide) | exact room1 (by with_reducible assumption) (by decide) | exact room0 (by with_reducible assumption) | exact room3 (by with_reducible assumption) (by decide))
  k_with "compareOp LtE ref ref" => (k_here; (with_reducible show wpAny _ _ (compareOp CmpOp.LtE (Value.ref _) (Value.ref _)) _ _ _); k_dflt (refine le_dataT (by ked_read) (by ked_read) (by ked_shaped) (by ked_shaped) (by ke_room) (by rfl) ?_); (try simp only [lexT_vec, lexT_head, lexT_tail, lexT_pair]))
  k_with "compareOp Lt ref ref" => (k_here; (with_reducible show wpAny _ _ (compareOp CmpOp.Lt (Value.ref _) (Value.ref _)) _ _ _); k_dflt (refine lt_dataT (by ked_read) (by ked_read) (by ked_shaped) (by ked_shaped) (by ke_room) (by rfl) ?_); (try simp only [lexT_vec, lexT_head, lexT_tail, lexT_pair]))
  k_with "compareOp Eq ref ref" => (k_here; (with_reducible show wpAny _ _ (compareOp CmpOp.Eq (Value.ref _) (Value.ref _)) _ _ _); k_dflt (refine eq_dataH (by ked_read) (by ked_read) (by ked_shaped) (by ked_shaped) (by ke_room) ?_); (try simp only [eqv_vec, eqv_head, eqv_pair]))
  k_with "compareOp NotEq ref ref" => (k_here; (with_reducible show wpAny _ _ (compareOp CmpOp.NotEq (Value.ref _) (Value.ref _)) _ _ _); k_dflt (refine ne_dataH (by ked_read) (by ked_read) (by ked_shaped) (by ked_shaped) (by ke_room) ?_); (try simp only [eqv_vec, eqv_head, eqv_pair]))
  k_with "eval Call" => (k_here; k_dflt (refine Call_ ?_))
  k_with "call ref" => (k_here; k_dflt (refine' one_pair (by (k_asm)) (by (k_asm)) (by (k_asm)) (by (k_asm)) (by (k_asm)) (by (first | exact rfl | assumption)) (by (k_updF)) (by (assumption)) (by (assumption)) (by (assumption)) (by (k_mem)) (by (k_ne)) (by (exact Nat.le_of_ble_eq_true rfl)) (by (exact Nat.le_of_ble_eq_true rfl)) (by ((repeat (first | exact pairs_nil | refine pairs_cons (by k_mem) (by first | with_reducible assumption | k_ne) ?_))); (fail_if_success exfalso)) (by (ktr_room)) (by (ktr_units)) ?_; intro b' p' q' tp' tq' x' y' t' u' n' h' tk' hb' hv' hx' hy' hy2' F' N'; (try dsimp only at N'); (try replace hb' := neN hb'); (try k_sweep); (try dsimp only); (try k_fold)))
  k_with "call ref" => (k_here; k_dflt (refine' one_int (fun _ => True) (by (k_asm)) (by (k_asm)) (by (k_asm)) (by (k_asm)) (by (k_asm)) (by (first | exact rfl | assumption)) (by (k_updF)) (by (assumption)) (by (assumption)) (by (assumption)) (by (k_mem)) (by (k_ne)) (by (exact Nat.le_of_ble_eq_true rfl)) (by (exact Nat.le_of_ble_eq_true rfl)) (by ((repeat (first | exact any_nil | refine any_cons ?_))); (fail_if_success exfalso)) (by (ktr_room)) (by (ktr_units)) ?_; intro v' tv' x' y' t' u' n' h' tk' hv' hx' hy' hy2' F' N'; (try dsimp only at N'); (try k_sweep); (try dsimp only); (try k_fold)))
  k_with "call ref" => (k_here; k_dflt (refine' bridge_ok (by (k_asm)) (by (k_asm)) (by (k_asm)) (by (k_asm)) (by (k_asm)) (by (first | exact rfl | assumption)) (by (k_updF)) (by (assumption)) (by (assumption)) (by (assumption))  (by (ktr_room)) (by (ktr_units)) ?_; intro b' p' q' tp' tq' x' y' t' u' n' h' tk' hb' hx' hy' hy2' F' N'; (try dsimp only at N'); (try replace hb' := neN hb'); (try k_sweep); (try dsimp only); (try k_fold)))
  k_with "call ref" => (k_here; k_dflt (refine' take_ok (by (k_asm)) (by (k_asm)) (by (k_asm)) (by (k_asm)) (by (k_asm)) (by (first | exact rfl | assumption)) (by (k_updF)) (by (assumption)) (by (assumption)) (by (assumption)) (by (first | decide | omega)) (by (first | decide | omega)) (by (ktr_room)) (by (ktr_units)) ?_; intro v' tv' x' y' t' u' n' h' tk' hx' hy' hy2' hv' hv2' F' N'; (try dsimp only at N'); (try k_sweep); (try dsimp only); (try k_fold)))
  k_with "call ref" => (k_here; k_dflt (refine' parts_ok (by (k_asm)) (by (k_asm)) (by (k_asm)) (by (k_asm)) (by (k_asm)) (by (first | exact rfl | assumption)) (by (first | assumption | exact VecIn.sub (by assumption) (by kqd_sub))) (by (ktr_room)) (by (ktr_units)) ?_; intro l' t0' t1' t2' t3' t4' t5' t6' h' tk' l1 F' N'; (try dsimp only at N'); (try k_lt l1); (try k_sweep); (try dsimp only); (try k_fold)))
  k_with "call ref" => (k_here; k_dflt (refine' pair_ok (by (k_asm)) (by (k_asm)) (by (k_asm)) (by (k_asm)) (by (k_asm)) (by (first | exact rfl | assumption)) (by (first | assumption | exact VecIn.sub (by assumption) (by kqd_sub))) (by (first | assumption | exact VecIn.sub (by assumption) (by kqd_sub))) (by (ktr_room)) (by (ktr_units)) ?_; intro _ h' tk' F' N'; (try dsimp only at N'); (try k_sweep); (try dsimp only); (try k_fold)))
  k_with "call ref" => (k_here; k_dflt (refine' from_ok (by (k_asm)) (by (k_asm)) (by (k_asm)) (by (k_asm)) (by (k_asm)) (by (first | exact rfl | assumption)) (by (first | assumption | exact VecIn.sub (by assumption) (by kqd_sub))) (by (first | assumption | exact VecIn.sub (by assumption) (by kqd_sub))) (by (ktr_room)) (by (ktr_units)) ?_; intro _ h' tk' F' N'; (try dsimp only at N'); (try k_sweep); (try dsimp only); (try k_fold)))
  k_with "call ref" => (k_here; k_dflt (refine' same_ok (by (k_asm)) (by (k_asm)) (by (k_asm)) (by (k_asm)) (by (k_asm)) (by (first | exact rfl | assumption)) (by (first | assumption | exact VecIn.sub (by assumption) (by kqd_sub))) (by (first | assumption | exact VecIn.sub (by assumption) (by kqd_sub))) (by (ktr_room)) (by (ktr_units)) ?_; intro _ h' tk' F' N'; (try dsimp only at N'); (try k_sweep); (try dsimp only); (try k_fold)))
  k_with "call ref" => (k_here; k_dflt (refine' better_ok (by (k_asm)) (by (k_asm)) (by (k_asm)) (by (k_asm)) (by (k_asm)) (by (first | exact rfl | assumption)) (by (first | assumption | exact VecIn.sub (by assumption) (by kqd_sub))) (by (first | assumption | exact VecIn.sub (by assumption) (by kqd_sub))) (by (ktr_room)) (by (ktr_units)) ?_; intro _ h' tk' F' N'; (try dsimp only at N'); (try k_sweep); (try dsimp only); (try k_fold)))
  k_with "call ref" => (k_here; k_dflt (refine' better_none (by (k_asm)) (by (k_asm)) (by (k_asm)) (by (k_asm)) (by (k_asm)) (by (first | exact rfl | assumption))  (by (ktr_room)) (by (ktr_units)) ?_; intro _ h' tk' F' N'; (try dsimp only at N'); (try k_sweep); (try dsimp only); (try k_fold)))
  k_with "call ref" => (k_here; k_dflt (refine' pool_ok (by (k_asm)) (by (k_asm)) (by (k_asm)) (by (k_asm)) (by (k_asm)) (by (first | exact rfl | assumption)) (by (assumption)) (by (assumption)) (by (omega)) (by (ktr_room)) (by (ktr_units)) ?_; intro src' x' y' t' u' n' h' tk' l1 hx' hy' hy2' F' N'; (try dsimp only at N'); (try k_lt l1); (try k_sweep); (try dsimp only); (try k_fold)))
  k_with "subscriptTail Name Constant ref int" => (k_here; (with_reducible show wpAny _ _ (subscriptTail _ _ (Value.ref _) (Value.int _ _)) _ _ _); k_dflt (refine' item_gen (by (k_asm)) (by (k_mem)) (by (first | exact Or.inl rfl | exact Or.inr ⟨rfl, fun _ => by with_unfolding_all rfl⟩)) (by (exact rfl)) (by (decide)) (by (decide)) (by (exact rfl)) ?_; k_whole))
  k_with "subscriptTail Name" => (k_here; (with_reducible show wpAny _ _ (subscriptTail _ _ (Value.ref _) (Value.int _ _)) _ _ _); k_dflt (refine' item_gen (by (k_asm)) (by (k_mem)) (by (first | exact Or.inl rfl | exact Or.inr ⟨rfl, fun _ => by with_unfolding_all rfl⟩)) (by (exact rfl)) (by (decide)) (by (decide)) (by (exact rfl)) ?_; k_whole))
  k_with "subscriptTail" => (k_here; (with_reducible show wpAny _ _ (subscriptTail _ _ (Value.ref _) (Value.int _ _)) _ _ _); k_dflt (refine' item_gen (by (k_asm)) (by (k_mem)) (by (first | exact Or.inl rfl | exact Or.inr ⟨rfl, fun _ => by with_unfolding_all rfl⟩)) (by (exact rfl)) (by (decide)) (by (decide)) (by (exact rfl)) ?_; k_whole))
  k_with "exec For Name Name cons nil" => (k_here; (rename Fr _ _ _ _ => lF'); (with_unfolding_all refine' For_turns lF' ?_; k_whole))
  k_with "exec For Name Subscript cons nil" => (k_here; (rename Fr _ _ _ _ => lF'); (with_unfolding_all refine' For_turns lF' ?_; k_whole))
  k_with "last exec For" => (k_here; (rename Fr _ _ _ _ => lF'); (with_unfolding_all refine' For_turns lF' ?_; k_whole))
  k_with "call ref" => (k_here; k_dflt (refine' old_ok (by (k_asm)) (by (k_asm)) (by (k_asm)) (by (k_asm)) (by (k_asm)) (by (first | exact rfl | assumption)) (by (k_updF)) (by (assumption)) (by (assumption)) (by (assumption)) (by (assumption)) (by (assumption)) (by (assumption)) (by (kqd_sub)) (by (ktr_room)) (by (ktr_units)) ?_; intro x' y' t' u' n' h' tk' hx' hy' hy2' F' N'; (try dsimp only at N'); (try k_sweep); (try dsimp only); (try k_fold)))
  k_with "call ref" => (k_here; k_dflt (refine' best_ok (by (k_asm)) (by (k_asm)) (by (k_asm)) (by (k_asm)) (by (k_asm)) (by (first | exact rfl | assumption)) (by (k_mem)) (by (assumption)) (by (kqd_sub)) (by (omega)) (by (omega)) (by (ktr_room)) (by (ktr_units)) ?_; intro i' v' d' h' tk' hi' hd' hmin' F' N'; (try dsimp only at N'); (try k_sweep); (try dsimp only); (try k_fold)))
  k_with "compareOp NotIn ref ref" => (k_here; (with_reducible show wpAny _ _ (compareOp CmpOp.NotIn (Value.ref _) (Value.ref _)) _ _ _); k_dflt (refine' notin_vecs (by (ke_room)) (by (k_asm)) (by (k_mem)) (by (assumption)) (by (kqd_sub)) (by (assumption)) (by (assumption)) ?_; k_whole))
  k_with "call ref" => (k_here; k_dflt (refine' less_ok (by (k_asm)) (by (k_asm)) (by (k_asm)) (by (k_asm)) (by (k_asm)) (by (first | exact rfl | assumption)) (by (first | assumption | exact VecIn.sub (by assumption) (by kqd_sub))) (by (first | assumption | exact VecIn.sub (by assumption) (by kqd_sub))) (by (ktr_room)) (by (ktr_units)) ?_; intro _ h' tk' F' N'; (try dsimp only at N'); (try k_sweep); (try dsimp only); (try k_fold)))
  exact True.intro
theorem tailN {h₀ h : Heap} {L : Addr} {p : Addr × Obj} {r : List (Addr × Obj)} (N : News h₀ L h (p :: r)) : News h₀ L h r := fun q hq => N q (List.mem_cons_of_mem _ hq)
theorem swap3 {a b c : Addr × Obj} {r : List (Addr × Obj)} : ∀ p ∈ c :: a :: b :: r, p ∈ a :: b :: c :: r := by
  intro p hp
  simp only [List.mem_cons] at hp ⊢
  rcases hp with h | h | h | h <;> simp [h]
theorem swap2 {a b : Addr × Obj} {r : List (Addr × Obj)} : ∀ p ∈ b :: a :: r, p ∈ a :: b :: r := by
  intro p hp
  simp only [List.mem_cons] at hp ⊢
  rcases hp with h | h | h <;> simp [h]
theorem apart_of {h₀ h : Heap} {L src c1 c2 : Addr} {p : Addr × Obj} {o o1 o2 : Obj} {tl : List (Addr × Obj)} (N0 : News h₀ L h (p :: (src, o) :: (c2, o2) :: (c1, o1) :: tl)) (hgt : ∀ p ∈ tl, @LT.lt Nat _ src p.1) (h2 : @LT.lt Nat _ c2 src) (h1 : @LT.lt Nat _ c1 src) :
    (∀ p ∈ tl, p.1 ≠ src) ∧ (∀ p ∈ tl, p.1 ≠ c2) ∧ (∀ p ∈ tl, p.1 ≠ c1) :=
  ⟨fun p hp => Nat.ne_of_gt (hgt p hp), fun p hp => Nat.ne_of_gt (Nat.lt_trans h2 (hgt p hp)), fun p hp => Nat.ne_of_gt (Nat.lt_trans h1 (hgt p hp))⟩
theorem led_in {h₀ h : Heap} {L : Addr} {p q : Addr × Obj} {rest tl : List (Addr × Obj)} (N : News h₀ L h (p :: q :: tl)) (hr : ∀ z ∈ rest, z ∈ tl) : News h₀ L h (q :: p :: (rest ++ tl)) := fun z hz => by
  rcases List.mem_cons.mp hz with h | hz
  · exact N z (h ▸ List.mem_cons_of_mem _ List.mem_cons_self)
  rcases List.mem_cons.mp hz with h | hz
  · exact N z (h ▸ List.mem_cons_self)
  rcases List.mem_append.mp hz with h | hz
  · exact N z (List.mem_cons_of_mem _ (List.mem_cons_of_mem _ (hr z h)))
  · exact N z (List.mem_cons_of_mem _ (List.mem_cons_of_mem _ hz))
theorem lines25 : True := by
  k_with "call ref" => (k_here; k_dflt (refine' vector_fr (by (k_asm)) (by (k_asm)) (by (k_asm)) (by (k_asm)) (by (k_asm)) (by (first | exact rfl | assumption)) (by (k_updF)) (by (assumption)) (by (assumption)) (by (assumption)) (by (ktr_room)) (by (ktr_units)) ?_; assumption))
  k_with "call ref" => (k_here; (with_reducible show wpAny _ _ (call (Value.ref 262) _) _ _ _); k_dflt (refine' costs_ok (by (k_asm)) (by (k_asm)) (by (k_asm)) (by (k_asm)) (by (k_asm)) (by (first | exact rfl | assumption)) (by (k_updF)) (by (assumption)) (by (assumption)) (by (assumption)) (by (ktr_room)) (by (ktr_units)) ?_; intro h' tk' K'))
  exact True.intro
theorem vecs_zero {vl : List (Addr × Obj)} {ys : List Value} {ds : List Vec} (V : Vecs vl ys ds) (h : 0 < ys.length) : ∃ a d, ys[0]? = some (.ref a) ∧ VecIn vl a d := by
  obtain ⟨a, d, e, _, Va⟩ := V.at (i := 0) (v := ys[0]) (by simp [h])
  exact ⟨a, d, by simp [h, e], Va⟩
theorem size_six {ys : List Value} (h : ys.length ≤ 6) : ys.toArray.size ≤ sizeLine := by
  rw [List.size_toArray]; exact Nat.le_trans h (Nat.le_of_ble_eq_true rfl)
theorem item_zero {prog : Program} {w : World} {A : Around} {E : Value → Shared → Prop} {s : Shared} {h₀ : Heap} {L D : Addr} {news : List (Addr × Obj)} {ys : List Value} {v : Value} {u : Tok} {value slice : Expr} {Q : Value → Shared → Prop} (N : News h₀ L s.heap news) (hm : (D, lst ys) ∈ news) (hx : ys[0]? = some v) (h : Q v s)
    (hs : subscripted slice false (.ref D) (.int 0 u) = operate [.ref D, .int 0 u] (getItem (.ref D) (.int 0 u)) := by with_unfolding_all rfl) (hg : ∀ r, letTemporaryGo value (.ref D) r = pure () := by intro _; with_unfolding_all rfl) :
    wpAny (model prog w) A (subscriptTail value slice (.ref D) (.int 0 u)) Q E s :=
  item_list (items := ys.toArray) ⟨_, (N _ hm).1, rfl, _, rfl⟩ (by decide) (by decide) (by simpa using hx) h hs hg
theorem lines26 : True := by
  k_with "subscriptTail Name Constant ref int" => (k_here; (with_reducible show wpAny _ _ (subscriptTail _ _ (Value.ref _) (Value.int 0 _)) _ _ _); k_dflt (refine' item_zero (by (k_asm)) (by (k_mem)) (by (with_reducible assumption)) ?_ (by (with_unfolding_all rfl)) (by ((intro _; with_unfolding_all rfl))); k_whole))
  exact True.intro
theorem less_no {ds : List Vec} {d2 d : Vec} {Q : Bool → Shared → Prop} {s : Shared} (hm : ∀ e : Vec, e ∈ ds → lexL false e.parts d.parts = false) (hd : d2 ∈ ds) (h : Q false s) : Q (lexL false d2.parts d.parts) s := by rw [hm d2 hd]; exact h
theorem goodW_true {c : ClaimW} {cl : Str → Option Addr} {mean : ExcName → Option Value} {args : List WData} {s₁ s' : Shared} {b : Bool} (k : ∀ b o, s₁.heap.get? b = some o → s'.heap.get? b = some o) (hg : s'.gens = #[]) (hn : ∀ cls, c.raises args cls = false) (hp : c.post args (.bool b) args = true) (hos : s'.os = s₁.os := by rfl) :
    GoodW c cl mean args s₁ (.ok (.ret (.bool b))) s' := ⟨.inl ⟨_, _, [], rfl, hn, .bool b, hp, unshared_nil⟩, k, hos, hg⟩
theorem law_holds : PySem.Challenge.rw_pb0537_01.Holds := by
  refine hd ?_
  w_strict (
    k_go0
    (all_goals try k_fold)
    (repeat' (focus (first | (fail_if_success (with_reducible show wpAny _ _ (exec (Stmt.Assign _ (PySem.Expr.ListComp _ _ _ _) _) _) _ _ _)); (first | (k_unfold; (try dsimp only)) | (k_end; wrow_close) | walk1 | (dsimp only; walk1)))))
    k_here
    k_dflt (refine LCg.Assign_ListComp_U (F₀ := by k_asm) (by rfl) (by with_unfolding_all rfl) (by with_unfolding_all rfl) (by decide) (by rfl) (by decide) (by rfl) (by rfl) (by rfl) ?_)
    (repeat' (focus (first | (fail_if_success (with_reducible show LCg.CompSrc _ _ _ _ _ _ _ _ _ _ _ _ _ _)); (first | (k_unfold; (try dsimp only)) | (k_end; wrow_close) | walk1 | (dsimp only; walk1)))))
    k_here
    rename News _ _ _ _ => lN'
    (iterate 9 (replace lN' := tailN lN'))
    k_dflt (refine' LCg.CompSrc.range ?q1 ?q2 lN' ?q3 (range_six ?r0 ?r1).1 (range_six ?r0 ?r1).2 ?sz (fun g => comp_vecs (tot := _) (rest := [(_, _), (_, _)]) ?st ?fi _ 0 [] [] [] _ _ _ _ _ ⟨?a1, ?a2, ?a3, (fun _ h => nomatch h), trivial⟩ ?len))
    case q1 => rfl
    case q2 => k_asm
    case q3 => assumption
    case r0 => assumption
    case r1 => assumption
    case sz => exact Nat.le_trans (show _ ≤ 6 by omega) (Nat.le_of_ble_eq_true rfl)
    case a1 => assumption
    case a2 => assumption
    case a3 => assumption
    case len => exact Nat.zero_add _
    case st =>
      intro I C D oI oC ys m₂ h tk tl x y t u n Q E' hx hy hy2 hn hC F N n1 n2 n3 ret
      simp only [List.cons_append, List.nil_append] at N ret
      k_steps
    case fi =>
      intro ys ds tl x y t u n l e D h tk F N off
      obtain ⟨hx, hy, hy2, hgt, hv⟩ := l
      simp only [List.cons_append, List.nil_append] at N off
      obtain ⟨hn, hc2, hc1⟩ := apart_of N hgt (by omega) (by omega)
      obtain ⟨hD, hD2, hD1, _⟩ := off
      have N2 := fun p hp => N p (swap2 p hp)
      clear N
      (repeat' (focus (first | (fail_if_success (with_reducible show wpAny _ _ (pyIter (Value.ref _)) (fun it s₂ => TurnsAt _ _ _ _ _ _ _ _ _ it s₂) _ _)); (first | (k_unfold; (try dsimp only)) | (k_end; wrow_close) | walk1 | (dsimp only; walk1)))))
      k_dflt (refine' iter_outer (vl := tl) (Str.ofString "one") (Str.ofString "other") ((D, lst ys) :: (_, _) :: (_, _) :: tl) ?q1 ?q2 N2 (fun _ h => h) (.head _) hv hx hy hy2 ?ou ?of)
      case q1 => rfl
      case q2 => k_asm
      case of =>
        intro c3 m3 x3 y3 t3 u3 n3 h3 tk3 hx3 hy3 hy23 hm3 F3 N3
        clear N2
        subst hm3
        (repeat' (focus (first | (fail_if_success (with_reducible show wpAny _ _ (eval (PySem.Expr.ListComp _ _ _ _) _) _ _ _)); (first | (k_unfold; (try dsimp only)) | (k_end; wrow_close) | walk1 | (dsimp only; walk1)))))
        have hpos : 0 < ys.length := by omega
        obtain ⟨a0, d0, h0, V0⟩ := vecs_zero hv hpos
        have V0' := V0
        obtain ⟨r0, b0, p0, tt0, tt1, tt2, tt3, tt4, tt5, tt6, mm1, mm2, mm3, mm4⟩ := V0
        k_here
        k_dflt (refine LCt.ListComp_T (F₀ := by k_asm) (by with_unfolding_all rfl) (by decide) (by rfl) (by decide) (by rfl) ?_)
        (repeat' (focus (first | (fail_if_success (with_reducible show LCt.CompSrcT _ _ _ _ _ _ _ _ _ _ _ _ _ _ _)); (first | (k_unfold; (try dsimp only)) | (k_end; wrow_close) | walk1 | (dsimp only; walk1)))))
        k_here
        rename News _ _ _ _ => lN'
        k_dflt (refine' LCt.CompSrcT.ledger ?q1 ?q2 lN' ?q4 ?q5 (fun g => filt_none (vl := tl) ?hax hv ?step ?fin _ 0))
        case q1 => rfl
        case q2 => k_asm
        case q4 => k_mem
        case q5 => exact size_six (by omega)
        case hax => exact .inr ⟨_, by k_mem, rfl, _, rfl⟩
        case step =>
          intro I2 C2 D2 a2 d2 oI2 oC2 m2 h2 tk2 Q2 E2 Va2 hd2 hC2 hx2 F2 N2 off2 ret2
          k_steps
          exact less_no (by with_reducible assumption) hd2 (ret2 _ _ (by with_reducible assumption) (by with_reducible assumption))
        case fin =>
          k_steps
          refine goodW_true (by assumption) (by assumption) (raisesW_false ?_) ?_
          · wrow_none_raised
          · kc_post
      case ou =>
        intro a1 d1 c m x1 y1 t1 u1 n1 h1 tk1 I oI P Va hx1 hy1 hy21 hoI lt hm F1 N1 ret1
        subst hm
        clear N2
        (repeat' (focus (first | (fail_if_success (with_reducible show wpAny _ _ (subscriptTail _ _ (Value.ref _) (Value.ref _)) _ _ _)); (first | (k_unfold; (try dsimp only)) | (k_end; wrow_close) | walk1 | (dsimp only; walk1)))))
        simp only [AllLt] at lt
        k_here
        k_dflt (refine' slice_three ?zF ?zN ?zt ?z6 ?_ ?zs ?zg; (case zF => k_asm); (case zN => k_asm); (case zt => k_mem); (case z6 => omega); (case zs => with_unfolding_all rfl); (case zg => (intro _; with_unfolding_all rfl)); k_whole)
        intro D2 h2 F2 N2 l2
        k_lt l2
        k_dflt (refine' iter_inner (vl := tl) (Str.ofString "one") (Str.ofString "other") (by decide) _ ?q1 ?q2 N2 swap3 (.head _) (Vecs.take 3 hv) hx1 hy1 hy21 ?iu ?fi2)
        case q1 => rfl
        case q2 => k_asm
        case fi2 =>
          intro c3 m3 x3 y3 t3 u3 n3 h3 tk3 hx3 hy3 hy23 hm3 F3 N3
          clear N2
          (repeat' (first | (k_unfold; (try dsimp only)) | (k_end; wrow_close) | walk1 | (dsimp only; walk1)))
          refine ret1 (c3, some (.ref a1)) _ _ _ _ _ _ _ _ ?_ ?_ ?_ hm3 (by assumption) (cb_drop (by assumption) (by kqd_sub))
          · assumption
          · assumption
          · assumption
        case iu =>
          intro a2 d2 c2 m2 x2 y2 t2 u2 n2 h2 tk2 J oJ P2 Vb hx2 hy2 hy22 hoJ lt2 hm2 F2' N2' ret2
          simp only [AllLt] at lt2
          subst hm2
          clear N2
          (repeat' (first | (k_unfold; (try dsimp only)) | (k_end; wrow_close) | walk1 | (dsimp only; walk1)))
          refine ret2 (some (.ref a2)) _ _ _ _ _ _ _ _ ?_ ?_ ?_ ?_ (by assumption) (cb_drop (by assumption) (by kqd_sub))
          · assumption
          · assumption
          · assumption
          · exact upd_same
)

end
end Mine

theorem PySem.Challenge.cw_pb0537_01_holds : PySem.Challenge.rw_pb0537_01.Holds :=
  Mine.law_holds
