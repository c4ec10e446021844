import PyProof.Rows.All
import Wide.All
import OpenK.AllK
import Wide.FinOn
import Lean
import PySem.Challenge.RW_pb0376_02
set_option Elab.async false
set_option compiler.extract_closed false
set_option maxRecDepth 100000
set_option maxHeartbeats 0
set_option linter.unusedVariables false
namespace MineH
open PySem PySem.W PySem.Calls PyProof.Rows PyProof.V
noncomputable abbrev pw : Program := PySem.Challenge.pw_pb0376_02
noncomputable def nthS : List Stmt → Nat → Stmt
  | [], _ => .Pass ⟨0, 0, 0, 0⟩
  | s :: _, 0 => s
  | _ :: l, n + 1 => nthS l n
noncomputable def bodyS : Stmt → List Stmt
  | .ClassDef _ _ _ b _ _ _ _ _ _ _ => b
  | s => [s]
noncomputable def fnAt (i j : Nat) : Stmt := nthS (bodyS (nthS pw.main.body i)) j
@[reducible] noncomputable def withDef {s : Stmt} {n : Str} {A : Arguments} {B : List Stmt} {d : List Expr} {r : Option Expr} {t : List TypeParam} {S : Scope} {ts : Option Scope} {b : Str} {p : Pos}
    (_ : s = Stmt.FunctionDef n A B d r t S ts b p) (o : Arguments → List Stmt → Scope → Obj) : Obj := o A B S
@[reducible] noncomputable def withCells {l b : List Stmt} (_ : l = b) : Program := { pw with main := { pw.main with body := b } }
@[reducible] noncomputable def qv : Program := withCells (l := [0, 2, 3, 4, 5, 6, 8, 10, 11, 12, 14, 15, 17, 19, 20, 22, 23, 24, 25, 26, 28, 30, 31].map (nthS pw.main.body))
  (b := [_, _, _, _, _, _, _, _, _, _, _, _, _, _, _, _, _, _, _, _, _, _, _]) rfl
@[reducible] noncomputable def o_0 (P : Params) : Obj := Obj.mk (Value.type "tuple") none (Data.seq #[]) #[]
@[reducible] noncomputable def o_1 (P : Params) : Obj := Obj.mk Value.none none (Data.fields #[]) #[]
@[reducible] noncomputable def o_2 (P : Params) : Obj := Obj.mk (Value.type "code") none (Data.fields #[Value.str (Str.ofString "<module>") 182, Value.str (Str.ofString "<module>") 183, Value.str (Str.ofString "/claim/cut.py") 184, Value.int 1 0, Value.int 0 0, Value.int 0 0, Value.int 0 0, Value.int 0 0, Value.ref 11, Value.bool false, Value.int 181 0, Value.ref 12, Value.none, Value.none, Value.none, Value.none, Value.int 185 0, Value.int 1 0, Value.str (Str.ofString "/claim/cut.py") 186]) #[]
@[reducible] noncomputable def o_3 (P : Params) : Obj := Obj.mk (Value.type "frame") none Data.plain #[some (Value.ref 13), some (Value.ref 3), some (Value.ref 3), none, some (Value.str (Str.ofString "__main__") 164), none, some (Value.ref 0)]
@[reducible] noncomputable def o_4 (P : Params) : Obj := Obj.mk Value.none none (Data.dict #[DictEntry.mk (PyData.keyHash P (Str.ofString "type.__subclasses__.Exception.0")) (Value.str (Str.ofString "type.__subclasses__.Exception.0") 399) (Value.int 157 0), DictEntry.mk (PyData.keyHash P (Str.ofString "type.__subclasses__.Exception.n")) (Value.str (Str.ofString "type.__subclasses__.Exception.n") 400) (Value.int 1 0)] 2) #[]
@[reducible] noncomputable def o_5 (P : Params) : Obj := Obj.mk (Value.type "dict") none (Data.dict #[DictEntry.mk (PyData.keyHash P (Str.ofString "__name__")) (Value.str (Str.ofString "__name__") 165) (Value.str (Str.ofString "law_pb0376_02") 784), DictEntry.mk (PyData.keyHash P (Str.ofString "__doc__")) (Value.str (Str.ofString "__doc__") 166) Value.none, DictEntry.mk (PyData.keyHash P (Str.ofString "__package__")) (Value.str (Str.ofString "__package__") 167) Value.none, DictEntry.mk (PyData.keyHash P (Str.ofString "__loader__")) (Value.str (Str.ofString "__loader__") 168) (Value.builtin "__main__.__loader__#opaque"), DictEntry.mk (PyData.keyHash P (Str.ofString "__spec__")) (Value.str (Str.ofString "__spec__") 169) Value.none, DictEntry.mk (PyData.keyHash P (Str.ofString "__annotations__")) (Value.str (Str.ofString "__annotations__") 170) (Value.ref 6), DictEntry.mk (PyData.keyHash P (Str.ofString "__builtins__")) (Value.str (Str.ofString "__builtins__") 171) (Value.ref 4), DictEntry.mk (PyData.keyHash P (Str.ofString "__file__")) (Value.str (Str.ofString "__file__") 173) (Value.str (Str.ofString "/claim/cut.py") 172), DictEntry.mk (PyData.keyHash P (Str.ofString "__cached__")) (Value.str (Str.ofString "__cached__") 174) Value.none, DictEntry.mk (PyData.keyHash P (Str.ofString "_wall")) (Value.str (Str.ofString "_wall") 193) (Value.ref 21), DictEntry.mk (PyData.keyHash P (Str.ofString "WORD_roots")) (Value.str (Str.ofString "WORD_roots") 197) (Value.int 4294967296 196), DictEntry.mk (PyData.keyHash P (Str.ofString "FP")) (Value.str (Str.ofString "FP") 199) (Value.int 11 198), DictEntry.mk (PyData.keyHash P (Str.ofString "module_at")) (Value.str (Str.ofString "module_at") 208) (Value.ref 28), DictEntry.mk (PyData.keyHash P (Str.ofString "map_at")) (Value.str (Str.ofString "map_at") 217) (Value.ref 35), DictEntry.mk (PyData.keyHash P (Str.ofString "stack_roots")) (Value.str (Str.ofString "stack_roots") 230) (Value.ref 42), DictEntry.mk (PyData.keyHash P (Str.ofString "Loaded")) (Value.str (Str.ofString "Loaded") 270) (Value.ref 59), DictEntry.mk (PyData.keyHash P (Str.ofString "LISTS")) (Value.str (Str.ofString "LISTS") 274) (Value.int 4 273), DictEntry.mk (PyData.keyHash P (Str.ofString "list_number")) (Value.str (Str.ofString "list_number") 281) (Value.ref 70), DictEntry.mk (PyData.keyHash P (Str.ofString "Heap")) (Value.str (Str.ofString "Heap") 380) (Value.ref 143), DictEntry.mk (PyData.keyHash P (Str.ofString "YardError")) (Value.str (Str.ofString "YardError") 402) (Value.ref 157), DictEntry.mk (PyData.keyHash P (Str.ofString "TrapError")) (Value.str (Str.ofString "TrapError") 431) (Value.ref 177), DictEntry.mk (PyData.keyHash P (Str.ofString "Cpu")) (Value.str (Str.ofString "Cpu") 529) (Value.ref 245), DictEntry.mk (PyData.keyHash P (Str.ofString "WORD_memory")) (Value.str (Str.ofString "WORD_memory") 533) (Value.int 4294967296 532), DictEntry.mk (PyData.keyHash P (Str.ofString "Memory")) (Value.str (Str.ofString "Memory") 605) (Value.ref 301), DictEntry.mk (PyData.keyHash P (Str.ofString "DATA_START")) (Value.str (Str.ofString "DATA_START") 609) (Value.int 64 608), DictEntry.mk (PyData.keyHash P (Str.ofString "GRAIN")) (Value.str (Str.ofString "GRAIN") 611) (Value.int 16 610), DictEntry.mk (PyData.keyHash P (Str.ofString "COMMAND_END")) (Value.str (Str.ofString "COMMAND_END") 613) (Value.int 9 612), DictEntry.mk (PyData.keyHash P (Str.ofString "rounded")) (Value.str (Str.ofString "rounded") 620) (Value.ref 312), DictEntry.mk (PyData.keyHash P (Str.ofString "Machine")) (Value.str (Str.ofString "Machine") 739) (Value.ref 393), DictEntry.mk (PyData.keyHash P (Str.ofString "ObjectFile")) (Value.str (Str.ofString "ObjectFile") 783) (Value.ref 414), DictEntry.mk (PyData.keyHash P (Str.ofString "_law_take")) (Value.str (Str.ofString "_law_take") 794) (Value.ref 425), DictEntry.mk (PyData.keyHash P (Str.ofString "law")) (Value.str (Str.ofString "law") 800) (Value.ref 430)] 32) #[]
@[reducible] noncomputable def o_6 (P : Params) : Obj := Obj.mk Value.none none (Data.fields #[Value.int 1 0, Value.int 0 0, Value.ref 20, Value.int 7 0, Value.int 0 0, Value.ref 27, Value.int 12 0, Value.int 0 0, Value.ref 34, Value.int 17 0, Value.int 0 0, Value.ref 41, Value.int 31 0, Value.int 0 0, Value.ref 48, Value.int 42 0, Value.int 0 0, Value.ref 69, Value.int 50 0, Value.int 0 0, Value.ref 76, Value.int 87 0, Value.int 0 0, Value.ref 153, Value.int 89 0, Value.int 0 0, Value.ref 166, Value.int 96 0, Value.int 0 0, Value.ref 185, Value.int 131 0, Value.int 0 0, Value.ref 255, Value.int 157 0, Value.int 0 0, Value.ref 311, Value.int 159 0, Value.int 0 0, Value.ref 318, Value.int 210 0, Value.int 0 0, Value.ref 403, Value.int 227 0, Value.int 0 0, Value.ref 424, Value.int 235 0, Value.int 0 0, Value.ref 429]) #[]
@[reducible] noncomputable def o_7 (P : Params) : Obj := Obj.mk (Value.type "tuple") none (Data.seq #[]) #[]
@[reducible] noncomputable def o_8 (P : Params) : Obj := Obj.mk Value.none none (Data.fields #[]) #[]
@[reducible] noncomputable def o_9 (P : Params) : Obj := Obj.mk (Value.type "tuple") none (Data.seq #[Value.str (Str.ofString "k") 190]) #[]
@[reducible] noncomputable def o_10 (P : Params) : Obj := Obj.mk (Value.type "tuple") none (Data.seq #[]) #[]
@[reducible] noncomputable def o_11 (P : Params) : Obj := withDef (s := fnAt 0 0) rfl fun A B S => Obj.mk Value.none none (Data.func (FuncData.mk (Str.ofString "_wall") (Str.ofString "_wall") A (FuncBody.stmts B) S 0 [] Value.none Value.none Value.none Value.none none Value.none Value.none 0)) #[]
@[reducible] noncomputable def o_12 (P : Params) : Obj := Obj.mk (Value.type "code") none (Data.fields #[Value.str (Str.ofString "_wall") 187, Value.str (Str.ofString "_wall") 188, Value.str (Str.ofString "/claim/cut.py") 189, Value.int 1 0, Value.int 1 0, Value.int 0 0, Value.int 0 0, Value.int 3 0, Value.ref 15, Value.bool true, Value.int 181 0, Value.ref 16, Value.none, Value.ref 17, Value.ref 18, Value.ref 19, Value.int 191 0, Value.int 1 0, Value.str (Str.ofString "/claim/cut.py") 192]) #[]
@[reducible] noncomputable def o_13 (P : Params) : Obj := withDef (s := fnAt 0 0) rfl fun A B S => Obj.mk (Value.type "function") none (Data.func (FuncData.mk (Str.ofString "_wall") (Str.ofString "_wall") A (FuncBody.stmts B) S 3 [] Value.none Value.none Value.none (Value.str (Str.ofString "__main__") 164) none (Value.ref 20) Value.none 0)) #[]
@[reducible] noncomputable def o_14 (P : Params) : Obj := Obj.mk (Value.type "tuple") none (Data.seq #[]) #[]
@[reducible] noncomputable def o_15 (P : Params) : Obj := Obj.mk Value.none none (Data.fields #[]) #[]
@[reducible] noncomputable def o_16 (P : Params) : Obj := Obj.mk (Value.type "tuple") none (Data.seq #[Value.str (Str.ofString "machine") 203, Value.str (Str.ofString "row") 204, Value.str (Str.ofString "loaded") 205]) #[]
@[reducible] noncomputable def o_17 (P : Params) : Obj := Obj.mk (Value.type "tuple") none (Data.seq #[]) #[]
@[reducible] noncomputable def o_18 (P : Params) : Obj := withDef (s := fnAt 4 0) rfl fun A B S => Obj.mk Value.none none (Data.func (FuncData.mk (Str.ofString "module_at") (Str.ofString "module_at") A (FuncBody.stmts B) S 0 [] Value.none Value.none Value.none Value.none none Value.none Value.none 0)) #[]
@[reducible] noncomputable def o_19 (P : Params) : Obj := Obj.mk (Value.type "code") none (Data.fields #[Value.str (Str.ofString "module_at") 200, Value.str (Str.ofString "module_at") 201, Value.str (Str.ofString "/claim/cut.py") 202, Value.int 7 0, Value.int 2 0, Value.int 0 0, Value.int 0 0, Value.int 3 0, Value.ref 22, Value.bool true, Value.int 181 0, Value.ref 23, Value.none, Value.ref 24, Value.ref 25, Value.ref 26, Value.int 206 0, Value.int 7 0, Value.str (Str.ofString "/claim/cut.py") 207]) #[]
@[reducible] noncomputable def o_20 (P : Params) : Obj := withDef (s := fnAt 4 0) rfl fun A B S => Obj.mk (Value.type "function") none (Data.func (FuncData.mk (Str.ofString "module_at") (Str.ofString "module_at") A (FuncBody.stmts B) S 3 [] Value.none Value.none Value.none (Value.str (Str.ofString "moduleyard.roots") 194) none (Value.ref 27) Value.none 0)) #[]
@[reducible] noncomputable def o_21 (P : Params) : Obj := Obj.mk (Value.type "tuple") none (Data.seq #[]) #[]
@[reducible] noncomputable def o_22 (P : Params) : Obj := Obj.mk Value.none none (Data.fields #[]) #[]
@[reducible] noncomputable def o_23 (P : Params) : Obj := Obj.mk (Value.type "tuple") none (Data.seq #[Value.str (Str.ofString "machine") 212, Value.str (Str.ofString "row") 213, Value.str (Str.ofString "loaded") 214]) #[]
@[reducible] noncomputable def o_24 (P : Params) : Obj := Obj.mk (Value.type "tuple") none (Data.seq #[]) #[]
@[reducible] noncomputable def o_25 (P : Params) : Obj := withDef (s := fnAt 5 0) rfl fun A B S => Obj.mk Value.none none (Data.func (FuncData.mk (Str.ofString "map_at") (Str.ofString "map_at") A (FuncBody.stmts B) S 0 [] Value.none Value.none Value.none Value.none none Value.none Value.none 0)) #[]
@[reducible] noncomputable def o_26 (P : Params) : Obj := Obj.mk (Value.type "code") none (Data.fields #[Value.str (Str.ofString "map_at") 209, Value.str (Str.ofString "map_at") 210, Value.str (Str.ofString "/claim/cut.py") 211, Value.int 12 0, Value.int 2 0, Value.int 0 0, Value.int 0 0, Value.int 3 0, Value.ref 29, Value.bool true, Value.int 181 0, Value.ref 30, Value.none, Value.ref 31, Value.ref 32, Value.ref 33, Value.int 215 0, Value.int 12 0, Value.str (Str.ofString "/claim/cut.py") 216]) #[]
@[reducible] noncomputable def o_27 (P : Params) : Obj := withDef (s := fnAt 5 0) rfl fun A B S => Obj.mk (Value.type "function") none (Data.func (FuncData.mk (Str.ofString "map_at") (Str.ofString "map_at") A (FuncBody.stmts B) S 3 [] Value.none Value.none Value.none (Value.str (Str.ofString "moduleyard.roots") 194) none (Value.ref 34) Value.none 0)) #[]
@[reducible] noncomputable def o_28 (P : Params) : Obj := Obj.mk (Value.type "tuple") none (Data.seq #[]) #[]
@[reducible] noncomputable def o_29 (P : Params) : Obj := Obj.mk Value.none none (Data.fields #[]) #[]
@[reducible] noncomputable def o_30 (P : Params) : Obj := Obj.mk (Value.type "tuple") none (Data.seq #[Value.str (Str.ofString "machine") 221, Value.str (Str.ofString "memory") 222, Value.str (Str.ofString "words") 223, Value.str (Str.ofString "row") 224, Value.str (Str.ofString "fp") 225, Value.str (Str.ofString "turns") 226, Value.str (Str.ofString "offset") 227]) #[]
@[reducible] noncomputable def o_31 (P : Params) : Obj := Obj.mk (Value.type "tuple") none (Data.seq #[]) #[]
@[reducible] noncomputable def o_32 (P : Params) : Obj := withDef (s := fnAt 6 0) rfl fun A B S => Obj.mk Value.none none (Data.func (FuncData.mk (Str.ofString "stack_roots") (Str.ofString "stack_roots") A (FuncBody.stmts B) S 0 [] Value.none Value.none Value.none Value.none none Value.none Value.none 0)) #[]
@[reducible] noncomputable def o_33 (P : Params) : Obj := Obj.mk (Value.type "code") none (Data.fields #[Value.str (Str.ofString "stack_roots") 218, Value.str (Str.ofString "stack_roots") 219, Value.str (Str.ofString "/claim/cut.py") 220, Value.int 17 0, Value.int 1 0, Value.int 0 0, Value.int 0 0, Value.int 3 0, Value.ref 36, Value.bool true, Value.int 181 0, Value.ref 37, Value.none, Value.ref 38, Value.ref 39, Value.ref 40, Value.int 228 0, Value.int 17 0, Value.str (Str.ofString "/claim/cut.py") 229]) #[]
@[reducible] noncomputable def o_34 (P : Params) : Obj := withDef (s := fnAt 6 0) rfl fun A B S => Obj.mk (Value.type "function") none (Data.func (FuncData.mk (Str.ofString "stack_roots") (Str.ofString "stack_roots") A (FuncBody.stmts B) S 3 [] Value.none Value.none Value.none (Value.str (Str.ofString "moduleyard.roots") 194) none (Value.ref 41) Value.none 0)) #[]
@[reducible] noncomputable def o_35 (P : Params) : Obj := Obj.mk (Value.type "tuple") none (Data.seq #[]) #[]
@[reducible] noncomputable def o_36 (P : Params) : Obj := Obj.mk (Value.type "builtin_function_or_method") none (Data.fields #[Value.builtin "type.__prepare__", Value.type "type"]) #[]
@[reducible] noncomputable def o_37 (P : Params) : Obj := Obj.mk (Value.type "dict") none (Data.dict #[DictEntry.mk (PyData.keyHash P (Str.ofString "__module__")) (Value.str (Str.ofString "__module__") 240) (Value.str (Str.ofString "moduleyard.loader") 231), DictEntry.mk (PyData.keyHash P (Str.ofString "__qualname__")) (Value.str (Str.ofString "__qualname__") 242) (Value.str (Str.ofString "Loaded") 241), DictEntry.mk (PyData.keyHash P (Str.ofString "__firstlineno__")) (Value.str (Str.ofString "__firstlineno__") 244) (Value.int 31 243), DictEntry.mk (PyData.keyHash P (Str.ofString "__init__")) (Value.str (Str.ofString "__init__") 256) (Value.ref 56), DictEntry.mk (PyData.keyHash P (Str.ofString "__static_attributes__")) (Value.str (Str.ofString "__static_attributes__") 263) (Value.ref 57)] 5) #[]
@[reducible] noncomputable def o_38 (P : Params) : Obj := Obj.mk (Value.type "tuple") none (Data.seq #[]) #[]
@[reducible] noncomputable def o_39 (P : Params) : Obj := Obj.mk Value.none none (Data.fields #[Value.int 33 0, Value.int 4 0, Value.ref 55]) #[]
@[reducible] noncomputable def o_40 (P : Params) : Obj := Obj.mk (Value.type "code") none (Data.fields #[Value.str (Str.ofString "Loaded") 235, Value.str (Str.ofString "Loaded") 236, Value.str (Str.ofString "/claim/cut.py") 237, Value.int 31 0, Value.int 0 0, Value.int 0 0, Value.int 0 0, Value.int 0 0, Value.ref 46, Value.bool false, Value.int 181 0, Value.ref 47, Value.none, Value.none, Value.none, Value.none, Value.int 238 0, Value.int 31 0, Value.str (Str.ofString "/claim/cut.py") 239]) #[]
@[reducible] noncomputable def o_41 (P : Params) : Obj := Obj.mk (Value.type "frame") none Data.plain #[some (Value.ref 48), some (Value.ref 3), some (Value.ref 45), none, some (Value.str (Str.ofString "moduleyard.loader") 231), none, some (Value.ref 0)]
@[reducible] noncomputable def o_42 (P : Params) : Obj := Obj.mk (Value.type "tuple") none (Data.seq #[]) #[]
@[reducible] noncomputable def o_43 (P : Params) : Obj := Obj.mk Value.none none (Data.fields #[]) #[]
@[reducible] noncomputable def o_44 (P : Params) : Obj := Obj.mk (Value.type "tuple") none (Data.seq #[Value.str (Str.ofString "self") 248, Value.str (Str.ofString "name") 249, Value.str (Str.ofString "key") 250, Value.str (Str.ofString "code_base") 251, Value.str (Str.ofString "data_base") 252, Value.str (Str.ofString "made") 253]) #[]
@[reducible] noncomputable def o_45 (P : Params) : Obj := Obj.mk (Value.type "tuple") none (Data.seq #[]) #[]
@[reducible] noncomputable def o_46 (P : Params) : Obj := withDef (s := fnAt 8 0) rfl fun A B S => Obj.mk Value.none none (Data.func (FuncData.mk (Str.ofString "__init__") (Str.ofString "Loaded.__init__") A (FuncBody.stmts B) S 0 [] Value.none Value.none Value.none Value.none none Value.none Value.none 0)) #[]
@[reducible] noncomputable def o_47 (P : Params) : Obj := Obj.mk (Value.type "code") none (Data.fields #[Value.str (Str.ofString "__init__") 245, Value.str (Str.ofString "Loaded.__init__") 246, Value.str (Str.ofString "/claim/cut.py") 247, Value.int 33 0, Value.int 6 0, Value.int 0 0, Value.int 0 0, Value.int 3 0, Value.ref 50, Value.bool true, Value.int 181 0, Value.ref 51, Value.none, Value.ref 52, Value.ref 53, Value.ref 54, Value.int 254 0, Value.int 33 0, Value.str (Str.ofString "/claim/cut.py") 255]) #[]
@[reducible] noncomputable def o_48 (P : Params) : Obj := withDef (s := fnAt 8 0) rfl fun A B S => Obj.mk (Value.type "function") none (Data.func (FuncData.mk (Str.ofString "__init__") (Str.ofString "Loaded.__init__") A (FuncBody.stmts B) S 3 [] Value.none Value.none Value.none (Value.str (Str.ofString "moduleyard.loader") 231) none (Value.ref 55) Value.none 0)) #[]
@[reducible] noncomputable def o_49 (P : Params) : Obj := Obj.mk (Value.type "tuple") none (Data.seq #[Value.str (Str.ofString "clients") 257, Value.str (Str.ofString "code_base") 258, Value.str (Str.ofString "data_base") 259, Value.str (Str.ofString "key") 260, Value.str (Str.ofString "name") 261, Value.str (Str.ofString "object") 262]) #[]
@[reducible] noncomputable def o_50 (P : Params) : Obj := Obj.mk (Value.type "dict") none (Data.dict #[DictEntry.mk (PyData.keyHash P (Str.ofString "__module__")) (Value.str (Str.ofString "__module__") 240) (Value.str (Str.ofString "moduleyard.loader") 231), DictEntry.mk (PyData.keyHash P (Str.ofString "__firstlineno__")) (Value.str (Str.ofString "__firstlineno__") 244) (Value.int 31 243), DictEntry.mk (PyData.keyHash P (Str.ofString "__init__")) (Value.str (Str.ofString "__init__") 256) (Value.ref 56), DictEntry.mk (PyData.keyHash P (Str.ofString "__static_attributes__")) (Value.str (Str.ofString "__static_attributes__") 263) (Value.ref 57), DictEntry.mk (PyData.keyHash P (Str.ofString "__dict__")) (Value.str (Str.ofString "__dict__") 265) (Value.ref 60), DictEntry.mk (PyData.keyHash P (Str.ofString "__weakref__")) (Value.str (Str.ofString "__weakref__") 267) (Value.ref 61), DictEntry.mk (PyData.keyHash P (Str.ofString "__doc__")) (Value.str (Str.ofString "__doc__") 268) Value.none] 4) #[]
@[reducible] noncomputable def o_51 (P : Params) : Obj := Obj.mk (Value.type "type") none (Data.cls (ClassData.mk (Str.ofString "Loaded") [Value.type "object"] [Value.ref 59, Value.type "object"] 58 (Str.ofString "Loaded") true [] [] false none false)) #[none, none, some (Value.str (Str.ofString "Loaded") 233), some (Value.str (Str.ofString "Loaded") 241), some (Value.builtin "object.__new__"), some (Value.bool true)]
@[reducible] noncomputable def o_52 (P : Params) : Obj := Obj.mk (Value.type "getset_descriptor") none (Data.fields #[Value.str (Str.ofString "__dict__") 264, Value.ref 59, Value.builtin "function.__dict__", Value.builtin "function.__dict__#set"]) #[]
@[reducible] noncomputable def o_53 (P : Params) : Obj := Obj.mk (Value.type "getset_descriptor") none (Data.fields #[Value.str (Str.ofString "__weakref__") 266, Value.ref 59, Value.builtin "ExceptionGroup.__weakref__", Value.none]) #[]
@[reducible] noncomputable def o_54 (P : Params) : Obj := Obj.mk (Value.type "super") none (Data.fields #[Value.ref 59, Value.ref 59, Value.ref 59]) #[]
@[reducible] noncomputable def o_55 (P : Params) : Obj := Obj.mk (Value.type "builtin_function_or_method") none (Data.fields #[Value.builtin "object.__init_subclass__", Value.ref 59]) #[]
@[reducible] noncomputable def o_56 (P : Params) : Obj := Obj.mk (Value.type "tuple") none (Data.seq #[]) #[]
@[reducible] noncomputable def o_57 (P : Params) : Obj := Obj.mk Value.none none (Data.fields #[]) #[]
@[reducible] noncomputable def o_58 (P : Params) : Obj := Obj.mk (Value.type "tuple") none (Data.seq #[Value.str (Str.ofString "size") 278]) #[]
@[reducible] noncomputable def o_59 (P : Params) : Obj := Obj.mk (Value.type "tuple") none (Data.seq #[]) #[]
@[reducible] noncomputable def o_60 (P : Params) : Obj := withDef (s := fnAt 11 0) rfl fun A B S => Obj.mk Value.none none (Data.func (FuncData.mk (Str.ofString "list_number") (Str.ofString "list_number") A (FuncBody.stmts B) S 0 [] Value.none Value.none Value.none Value.none none Value.none Value.none 0)) #[]
@[reducible] noncomputable def o_61 (P : Params) : Obj := Obj.mk (Value.type "code") none (Data.fields #[Value.str (Str.ofString "list_number") 275, Value.str (Str.ofString "list_number") 276, Value.str (Str.ofString "/claim/cut.py") 277, Value.int 42 0, Value.int 1 0, Value.int 0 0, Value.int 0 0, Value.int 3 0, Value.ref 64, Value.bool true, Value.int 181 0, Value.ref 65, Value.none, Value.ref 66, Value.ref 67, Value.ref 68, Value.int 279 0, Value.int 42 0, Value.str (Str.ofString "/claim/cut.py") 280]) #[]
@[reducible] noncomputable def o_62 (P : Params) : Obj := withDef (s := fnAt 11 0) rfl fun A B S => Obj.mk (Value.type "function") none (Data.func (FuncData.mk (Str.ofString "list_number") (Str.ofString "list_number") A (FuncBody.stmts B) S 3 [] Value.none Value.none Value.none (Value.str (Str.ofString "moduleyard.heap") 271) none (Value.ref 69) Value.none 0)) #[]
@[reducible] noncomputable def o_63 (P : Params) : Obj := Obj.mk (Value.type "tuple") none (Data.seq #[]) #[]
@[reducible] noncomputable def o_64 (P : Params) : Obj := Obj.mk (Value.type "builtin_function_or_method") none (Data.fields #[Value.builtin "type.__prepare__", Value.type "type"]) #[]
@[reducible] noncomputable def o_65 (P : Params) : Obj := Obj.mk (Value.type "dict") none (Data.dict #[DictEntry.mk (PyData.keyHash P (Str.ofString "__module__")) (Value.str (Str.ofString "__module__") 289) (Value.str (Str.ofString "moduleyard.heap") 271), DictEntry.mk (PyData.keyHash P (Str.ofString "__qualname__")) (Value.str (Str.ofString "__qualname__") 291) (Value.str (Str.ofString "Heap") 290), DictEntry.mk (PyData.keyHash P (Str.ofString "__firstlineno__")) (Value.str (Str.ofString "__firstlineno__") 293) (Value.int 50 292), DictEntry.mk (PyData.keyHash P (Str.ofString "__init__")) (Value.str (Str.ofString "__init__") 303) (Value.ref 84), DictEntry.mk (PyData.keyHash P (Str.ofString "put_free")) (Value.str (Str.ofString "put_free") 313) (Value.ref 91), DictEntry.mk (PyData.keyHash P (Str.ofString "is_free")) (Value.str (Str.ofString "is_free") 321) (Value.ref 98), DictEntry.mk (PyData.keyHash P (Str.ofString "descriptor")) (Value.str (Str.ofString "descriptor") 329) (Value.ref 105), DictEntry.mk (PyData.keyHash P (Str.ofString "size_of")) (Value.str (Str.ofString "size_of") 337) (Value.ref 112), DictEntry.mk (PyData.keyHash P (Str.ofString "take_free")) (Value.str (Str.ofString "take_free") 345) (Value.ref 119), DictEntry.mk (PyData.keyHash P (Str.ofString "alloc")) (Value.str (Str.ofString "alloc") 353) (Value.ref 126), DictEntry.mk (PyData.keyHash P (Str.ofString "blocks")) (Value.str (Str.ofString "blocks") 360) (Value.ref 133), DictEntry.mk (PyData.keyHash P (Str.ofString "block_of")) (Value.str (Str.ofString "block_of") 368) (Value.ref 140), DictEntry.mk (PyData.keyHash P (Str.ofString "__static_attributes__")) (Value.str (Str.ofString "__static_attributes__") 373) (Value.ref 141)] 13) #[]
@[reducible] noncomputable def o_66 (P : Params) : Obj := Obj.mk (Value.type "tuple") none (Data.seq #[]) #[]
@[reducible] noncomputable def o_67 (P : Params) : Obj := Obj.mk Value.none none (Data.fields #[Value.int 52 0, Value.int 4 0, Value.ref 83, Value.int 60 0, Value.int 4 0, Value.ref 90, Value.int 66 0, Value.int 4 0, Value.ref 97, Value.int 69 0, Value.int 4 0, Value.ref 104, Value.int 72 0, Value.int 4 0, Value.ref 111, Value.int 75 0, Value.int 4 0, Value.ref 118, Value.int 78 0, Value.int 4 0, Value.ref 125, Value.int 81 0, Value.int 4 0, Value.ref 132, Value.int 84 0, Value.int 4 0, Value.ref 139]) #[]
@[reducible] noncomputable def o_68 (P : Params) : Obj := Obj.mk (Value.type "code") none (Data.fields #[Value.str (Str.ofString "Heap") 284, Value.str (Str.ofString "Heap") 285, Value.str (Str.ofString "/claim/cut.py") 286, Value.int 50 0, Value.int 0 0, Value.int 0 0, Value.int 0 0, Value.int 0 0, Value.ref 74, Value.bool false, Value.int 181 0, Value.ref 75, Value.none, Value.none, Value.none, Value.none, Value.int 287 0, Value.int 50 0, Value.str (Str.ofString "/claim/cut.py") 288]) #[]
@[reducible] noncomputable def o_69 (P : Params) : Obj := Obj.mk (Value.type "frame") none Data.plain #[some (Value.ref 76), some (Value.ref 3), some (Value.ref 73), none, some (Value.str (Str.ofString "moduleyard.heap") 271), none, some (Value.ref 0)]
@[reducible] noncomputable def o_70 (P : Params) : Obj := Obj.mk (Value.type "tuple") none (Data.seq #[]) #[]
@[reducible] noncomputable def o_71 (P : Params) : Obj := Obj.mk Value.none none (Data.fields #[]) #[]
@[reducible] noncomputable def o_72 (P : Params) : Obj := Obj.mk (Value.type "tuple") none (Data.seq #[Value.str (Str.ofString "self") 297, Value.str (Str.ofString "memory") 298, Value.str (Str.ofString "start") 299, Value.str (Str.ofString "limit") 300]) #[]
@[reducible] noncomputable def o_73 (P : Params) : Obj := Obj.mk (Value.type "tuple") none (Data.seq #[]) #[]
@[reducible] noncomputable def o_74 (P : Params) : Obj := withDef (s := fnAt 12 0) rfl fun A B S => Obj.mk Value.none none (Data.func (FuncData.mk (Str.ofString "__init__") (Str.ofString "Heap.__init__") A (FuncBody.stmts B) S 0 [] Value.none Value.none Value.none Value.none none Value.none Value.none 0)) #[]
@[reducible] noncomputable def o_75 (P : Params) : Obj := Obj.mk (Value.type "code") none (Data.fields #[Value.str (Str.ofString "__init__") 294, Value.str (Str.ofString "Heap.__init__") 295, Value.str (Str.ofString "/claim/cut.py") 296, Value.int 52 0, Value.int 4 0, Value.int 0 0, Value.int 0 0, Value.int 3 0, Value.ref 78, Value.bool true, Value.int 181 0, Value.ref 79, Value.none, Value.ref 80, Value.ref 81, Value.ref 82, Value.int 301 0, Value.int 52 0, Value.str (Str.ofString "/claim/cut.py") 302]) #[]
@[reducible] noncomputable def o_76 (P : Params) : Obj := withDef (s := fnAt 12 0) rfl fun A B S => Obj.mk (Value.type "function") none (Data.func (FuncData.mk (Str.ofString "__init__") (Str.ofString "Heap.__init__") A (FuncBody.stmts B) S 3 [] Value.none Value.none Value.none (Value.str (Str.ofString "moduleyard.heap") 271) none (Value.ref 83) Value.none 0)) #[]
@[reducible] noncomputable def o_77 (P : Params) : Obj := Obj.mk (Value.type "tuple") none (Data.seq #[]) #[]
@[reducible] noncomputable def o_78 (P : Params) : Obj := Obj.mk Value.none none (Data.fields #[]) #[]
@[reducible] noncomputable def o_79 (P : Params) : Obj := Obj.mk (Value.type "tuple") none (Data.seq #[Value.str (Str.ofString "self") 307, Value.str (Str.ofString "block") 308, Value.str (Str.ofString "size") 309, Value.str (Str.ofString "number") 310]) #[]
@[reducible] noncomputable def o_80 (P : Params) : Obj := Obj.mk (Value.type "tuple") none (Data.seq #[]) #[]
@[reducible] noncomputable def o_81 (P : Params) : Obj := withDef (s := fnAt 12 1) rfl fun A B S => Obj.mk Value.none none (Data.func (FuncData.mk (Str.ofString "put_free") (Str.ofString "Heap.put_free") A (FuncBody.stmts B) S 0 [] Value.none Value.none Value.none Value.none none Value.none Value.none 0)) #[]
@[reducible] noncomputable def o_82 (P : Params) : Obj := Obj.mk (Value.type "code") none (Data.fields #[Value.str (Str.ofString "put_free") 304, Value.str (Str.ofString "Heap.put_free") 305, Value.str (Str.ofString "/claim/cut.py") 306, Value.int 60 0, Value.int 3 0, Value.int 0 0, Value.int 0 0, Value.int 3 0, Value.ref 85, Value.bool true, Value.int 181 0, Value.ref 86, Value.none, Value.ref 87, Value.ref 88, Value.ref 89, Value.int 311 0, Value.int 60 0, Value.str (Str.ofString "/claim/cut.py") 312]) #[]
@[reducible] noncomputable def o_83 (P : Params) : Obj := withDef (s := fnAt 12 1) rfl fun A B S => Obj.mk (Value.type "function") none (Data.func (FuncData.mk (Str.ofString "put_free") (Str.ofString "Heap.put_free") A (FuncBody.stmts B) S 3 [] Value.none Value.none Value.none (Value.str (Str.ofString "moduleyard.heap") 271) none (Value.ref 90) Value.none 0)) #[]
@[reducible] noncomputable def o_84 (P : Params) : Obj := Obj.mk (Value.type "tuple") none (Data.seq #[]) #[]
@[reducible] noncomputable def o_85 (P : Params) : Obj := Obj.mk Value.none none (Data.fields #[]) #[]
@[reducible] noncomputable def o_86 (P : Params) : Obj := Obj.mk (Value.type "tuple") none (Data.seq #[Value.str (Str.ofString "self") 317, Value.str (Str.ofString "block") 318]) #[]
@[reducible] noncomputable def o_87 (P : Params) : Obj := Obj.mk (Value.type "tuple") none (Data.seq #[]) #[]
@[reducible] noncomputable def o_88 (P : Params) : Obj := withDef (s := fnAt 12 2) rfl fun A B S => Obj.mk Value.none none (Data.func (FuncData.mk (Str.ofString "is_free") (Str.ofString "Heap.is_free") A (FuncBody.stmts B) S 0 [] Value.none Value.none Value.none Value.none none Value.none Value.none 0)) #[]
@[reducible] noncomputable def o_89 (P : Params) : Obj := Obj.mk (Value.type "code") none (Data.fields #[Value.str (Str.ofString "is_free") 314, Value.str (Str.ofString "Heap.is_free") 315, Value.str (Str.ofString "/claim/cut.py") 316, Value.int 66 0, Value.int 2 0, Value.int 0 0, Value.int 0 0, Value.int 3 0, Value.ref 92, Value.bool true, Value.int 181 0, Value.ref 93, Value.none, Value.ref 94, Value.ref 95, Value.ref 96, Value.int 319 0, Value.int 66 0, Value.str (Str.ofString "/claim/cut.py") 320]) #[]
@[reducible] noncomputable def o_90 (P : Params) : Obj := withDef (s := fnAt 12 2) rfl fun A B S => Obj.mk (Value.type "function") none (Data.func (FuncData.mk (Str.ofString "is_free") (Str.ofString "Heap.is_free") A (FuncBody.stmts B) S 3 [] Value.none Value.none Value.none (Value.str (Str.ofString "moduleyard.heap") 271) none (Value.ref 97) Value.none 0)) #[]
@[reducible] noncomputable def o_91 (P : Params) : Obj := Obj.mk (Value.type "tuple") none (Data.seq #[]) #[]
@[reducible] noncomputable def o_92 (P : Params) : Obj := Obj.mk Value.none none (Data.fields #[]) #[]
@[reducible] noncomputable def o_93 (P : Params) : Obj := Obj.mk (Value.type "tuple") none (Data.seq #[Value.str (Str.ofString "self") 325, Value.str (Str.ofString "block") 326]) #[]
@[reducible] noncomputable def o_94 (P : Params) : Obj := Obj.mk (Value.type "tuple") none (Data.seq #[]) #[]
@[reducible] noncomputable def o_95 (P : Params) : Obj := withDef (s := fnAt 12 3) rfl fun A B S => Obj.mk Value.none none (Data.func (FuncData.mk (Str.ofString "descriptor") (Str.ofString "Heap.descriptor") A (FuncBody.stmts B) S 0 [] Value.none Value.none Value.none Value.none none Value.none Value.none 0)) #[]
@[reducible] noncomputable def o_96 (P : Params) : Obj := Obj.mk (Value.type "code") none (Data.fields #[Value.str (Str.ofString "descriptor") 322, Value.str (Str.ofString "Heap.descriptor") 323, Value.str (Str.ofString "/claim/cut.py") 324, Value.int 69 0, Value.int 2 0, Value.int 0 0, Value.int 0 0, Value.int 3 0, Value.ref 99, Value.bool true, Value.int 181 0, Value.ref 100, Value.none, Value.ref 101, Value.ref 102, Value.ref 103, Value.int 327 0, Value.int 69 0, Value.str (Str.ofString "/claim/cut.py") 328]) #[]
@[reducible] noncomputable def o_97 (P : Params) : Obj := withDef (s := fnAt 12 3) rfl fun A B S => Obj.mk (Value.type "function") none (Data.func (FuncData.mk (Str.ofString "descriptor") (Str.ofString "Heap.descriptor") A (FuncBody.stmts B) S 3 [] Value.none Value.none Value.none (Value.str (Str.ofString "moduleyard.heap") 271) none (Value.ref 104) Value.none 0)) #[]
@[reducible] noncomputable def o_98 (P : Params) : Obj := Obj.mk (Value.type "tuple") none (Data.seq #[]) #[]
@[reducible] noncomputable def o_99 (P : Params) : Obj := Obj.mk Value.none none (Data.fields #[]) #[]
@[reducible] noncomputable def o_100 (P : Params) : Obj := Obj.mk (Value.type "tuple") none (Data.seq #[Value.str (Str.ofString "self") 333, Value.str (Str.ofString "block") 334]) #[]
@[reducible] noncomputable def o_101 (P : Params) : Obj := Obj.mk (Value.type "tuple") none (Data.seq #[]) #[]
@[reducible] noncomputable def o_102 (P : Params) : Obj := withDef (s := fnAt 12 4) rfl fun A B S => Obj.mk Value.none none (Data.func (FuncData.mk (Str.ofString "size_of") (Str.ofString "Heap.size_of") A (FuncBody.stmts B) S 0 [] Value.none Value.none Value.none Value.none none Value.none Value.none 0)) #[]
@[reducible] noncomputable def o_103 (P : Params) : Obj := Obj.mk (Value.type "code") none (Data.fields #[Value.str (Str.ofString "size_of") 330, Value.str (Str.ofString "Heap.size_of") 331, Value.str (Str.ofString "/claim/cut.py") 332, Value.int 72 0, Value.int 2 0, Value.int 0 0, Value.int 0 0, Value.int 3 0, Value.ref 106, Value.bool true, Value.int 181 0, Value.ref 107, Value.none, Value.ref 108, Value.ref 109, Value.ref 110, Value.int 335 0, Value.int 72 0, Value.str (Str.ofString "/claim/cut.py") 336]) #[]
@[reducible] noncomputable def o_104 (P : Params) : Obj := withDef (s := fnAt 12 4) rfl fun A B S => Obj.mk (Value.type "function") none (Data.func (FuncData.mk (Str.ofString "size_of") (Str.ofString "Heap.size_of") A (FuncBody.stmts B) S 3 [] Value.none Value.none Value.none (Value.str (Str.ofString "moduleyard.heap") 271) none (Value.ref 111) Value.none 0)) #[]
@[reducible] noncomputable def o_105 (P : Params) : Obj := Obj.mk (Value.type "tuple") none (Data.seq #[]) #[]
@[reducible] noncomputable def o_106 (P : Params) : Obj := Obj.mk Value.none none (Data.fields #[]) #[]
@[reducible] noncomputable def o_107 (P : Params) : Obj := Obj.mk (Value.type "tuple") none (Data.seq #[Value.str (Str.ofString "self") 341, Value.str (Str.ofString "size") 342]) #[]
@[reducible] noncomputable def o_108 (P : Params) : Obj := Obj.mk (Value.type "tuple") none (Data.seq #[]) #[]
@[reducible] noncomputable def o_109 (P : Params) : Obj := withDef (s := fnAt 12 5) rfl fun A B S => Obj.mk Value.none none (Data.func (FuncData.mk (Str.ofString "take_free") (Str.ofString "Heap.take_free") A (FuncBody.stmts B) S 0 [] Value.none Value.none Value.none Value.none none Value.none Value.none 0)) #[]
@[reducible] noncomputable def o_110 (P : Params) : Obj := Obj.mk (Value.type "code") none (Data.fields #[Value.str (Str.ofString "take_free") 338, Value.str (Str.ofString "Heap.take_free") 339, Value.str (Str.ofString "/claim/cut.py") 340, Value.int 75 0, Value.int 2 0, Value.int 0 0, Value.int 0 0, Value.int 3 0, Value.ref 113, Value.bool true, Value.int 181 0, Value.ref 114, Value.none, Value.ref 115, Value.ref 116, Value.ref 117, Value.int 343 0, Value.int 75 0, Value.str (Str.ofString "/claim/cut.py") 344]) #[]
@[reducible] noncomputable def o_111 (P : Params) : Obj := withDef (s := fnAt 12 5) rfl fun A B S => Obj.mk (Value.type "function") none (Data.func (FuncData.mk (Str.ofString "take_free") (Str.ofString "Heap.take_free") A (FuncBody.stmts B) S 3 [] Value.none Value.none Value.none (Value.str (Str.ofString "moduleyard.heap") 271) none (Value.ref 118) Value.none 0)) #[]
@[reducible] noncomputable def o_112 (P : Params) : Obj := Obj.mk (Value.type "tuple") none (Data.seq #[]) #[]
@[reducible] noncomputable def o_113 (P : Params) : Obj := Obj.mk Value.none none (Data.fields #[]) #[]
@[reducible] noncomputable def o_114 (P : Params) : Obj := Obj.mk (Value.type "tuple") none (Data.seq #[Value.str (Str.ofString "self") 349, Value.str (Str.ofString "descriptor") 350]) #[]
@[reducible] noncomputable def o_115 (P : Params) : Obj := Obj.mk (Value.type "tuple") none (Data.seq #[]) #[]
@[reducible] noncomputable def o_116 (P : Params) : Obj := withDef (s := fnAt 12 6) rfl fun A B S => Obj.mk Value.none none (Data.func (FuncData.mk (Str.ofString "alloc") (Str.ofString "Heap.alloc") A (FuncBody.stmts B) S 0 [] Value.none Value.none Value.none Value.none none Value.none Value.none 0)) #[]
@[reducible] noncomputable def o_117 (P : Params) : Obj := Obj.mk (Value.type "code") none (Data.fields #[Value.str (Str.ofString "alloc") 346, Value.str (Str.ofString "Heap.alloc") 347, Value.str (Str.ofString "/claim/cut.py") 348, Value.int 78 0, Value.int 2 0, Value.int 0 0, Value.int 0 0, Value.int 3 0, Value.ref 120, Value.bool true, Value.int 181 0, Value.ref 121, Value.none, Value.ref 122, Value.ref 123, Value.ref 124, Value.int 351 0, Value.int 78 0, Value.str (Str.ofString "/claim/cut.py") 352]) #[]
@[reducible] noncomputable def o_118 (P : Params) : Obj := withDef (s := fnAt 12 6) rfl fun A B S => Obj.mk (Value.type "function") none (Data.func (FuncData.mk (Str.ofString "alloc") (Str.ofString "Heap.alloc") A (FuncBody.stmts B) S 3 [] Value.none Value.none Value.none (Value.str (Str.ofString "moduleyard.heap") 271) none (Value.ref 125) Value.none 0)) #[]
@[reducible] noncomputable def o_119 (P : Params) : Obj := Obj.mk (Value.type "tuple") none (Data.seq #[]) #[]
@[reducible] noncomputable def o_120 (P : Params) : Obj := Obj.mk Value.none none (Data.fields #[]) #[]
@[reducible] noncomputable def o_121 (P : Params) : Obj := Obj.mk (Value.type "tuple") none (Data.seq #[Value.str (Str.ofString "self") 357]) #[]
@[reducible] noncomputable def o_122 (P : Params) : Obj := Obj.mk (Value.type "tuple") none (Data.seq #[]) #[]
@[reducible] noncomputable def o_123 (P : Params) : Obj := withDef (s := fnAt 12 7) rfl fun A B S => Obj.mk Value.none none (Data.func (FuncData.mk (Str.ofString "blocks") (Str.ofString "Heap.blocks") A (FuncBody.stmts B) S 0 [] Value.none Value.none Value.none Value.none none Value.none Value.none 0)) #[]
@[reducible] noncomputable def o_124 (P : Params) : Obj := Obj.mk (Value.type "code") none (Data.fields #[Value.str (Str.ofString "blocks") 354, Value.str (Str.ofString "Heap.blocks") 355, Value.str (Str.ofString "/claim/cut.py") 356, Value.int 81 0, Value.int 1 0, Value.int 0 0, Value.int 0 0, Value.int 3 0, Value.ref 127, Value.bool true, Value.int 181 0, Value.ref 128, Value.none, Value.ref 129, Value.ref 130, Value.ref 131, Value.int 358 0, Value.int 81 0, Value.str (Str.ofString "/claim/cut.py") 359]) #[]
@[reducible] noncomputable def o_125 (P : Params) : Obj := withDef (s := fnAt 12 7) rfl fun A B S => Obj.mk (Value.type "function") none (Data.func (FuncData.mk (Str.ofString "blocks") (Str.ofString "Heap.blocks") A (FuncBody.stmts B) S 3 [] Value.none Value.none Value.none (Value.str (Str.ofString "moduleyard.heap") 271) none (Value.ref 132) Value.none 0)) #[]
@[reducible] noncomputable def o_126 (P : Params) : Obj := Obj.mk (Value.type "tuple") none (Data.seq #[]) #[]
@[reducible] noncomputable def o_127 (P : Params) : Obj := Obj.mk Value.none none (Data.fields #[]) #[]
@[reducible] noncomputable def o_128 (P : Params) : Obj := Obj.mk (Value.type "tuple") none (Data.seq #[Value.str (Str.ofString "self") 364, Value.str (Str.ofString "address") 365]) #[]
@[reducible] noncomputable def o_129 (P : Params) : Obj := Obj.mk (Value.type "tuple") none (Data.seq #[]) #[]
@[reducible] noncomputable def o_130 (P : Params) : Obj := withDef (s := fnAt 12 8) rfl fun A B S => Obj.mk Value.none none (Data.func (FuncData.mk (Str.ofString "block_of") (Str.ofString "Heap.block_of") A (FuncBody.stmts B) S 0 [] Value.none Value.none Value.none Value.none none Value.none Value.none 0)) #[]
@[reducible] noncomputable def o_131 (P : Params) : Obj := Obj.mk (Value.type "code") none (Data.fields #[Value.str (Str.ofString "block_of") 361, Value.str (Str.ofString "Heap.block_of") 362, Value.str (Str.ofString "/claim/cut.py") 363, Value.int 84 0, Value.int 2 0, Value.int 0 0, Value.int 0 0, Value.int 3 0, Value.ref 134, Value.bool true, Value.int 181 0, Value.ref 135, Value.none, Value.ref 136, Value.ref 137, Value.ref 138, Value.int 366 0, Value.int 84 0, Value.str (Str.ofString "/claim/cut.py") 367]) #[]
@[reducible] noncomputable def o_132 (P : Params) : Obj := withDef (s := fnAt 12 8) rfl fun A B S => Obj.mk (Value.type "function") none (Data.func (FuncData.mk (Str.ofString "block_of") (Str.ofString "Heap.block_of") A (FuncBody.stmts B) S 3 [] Value.none Value.none Value.none (Value.str (Str.ofString "moduleyard.heap") 271) none (Value.ref 139) Value.none 0)) #[]
@[reducible] noncomputable def o_133 (P : Params) : Obj := Obj.mk (Value.type "tuple") none (Data.seq #[Value.str (Str.ofString "free") 369, Value.str (Str.ofString "limit") 370, Value.str (Str.ofString "memory") 371, Value.str (Str.ofString "start") 372]) #[]
@[reducible] noncomputable def o_134 (P : Params) : Obj := Obj.mk (Value.type "dict") none (Data.dict #[DictEntry.mk (PyData.keyHash P (Str.ofString "__module__")) (Value.str (Str.ofString "__module__") 289) (Value.str (Str.ofString "moduleyard.heap") 271), DictEntry.mk (PyData.keyHash P (Str.ofString "__firstlineno__")) (Value.str (Str.ofString "__firstlineno__") 293) (Value.int 50 292), DictEntry.mk (PyData.keyHash P (Str.ofString "__init__")) (Value.str (Str.ofString "__init__") 303) (Value.ref 84), DictEntry.mk (PyData.keyHash P (Str.ofString "put_free")) (Value.str (Str.ofString "put_free") 313) (Value.ref 91), DictEntry.mk (PyData.keyHash P (Str.ofString "is_free")) (Value.str (Str.ofString "is_free") 321) (Value.ref 98), DictEntry.mk (PyData.keyHash P (Str.ofString "descriptor")) (Value.str (Str.ofString "descriptor") 329) (Value.ref 105), DictEntry.mk (PyData.keyHash P (Str.ofString "size_of")) (Value.str (Str.ofString "size_of") 337) (Value.ref 112), DictEntry.mk (PyData.keyHash P (Str.ofString "take_free")) (Value.str (Str.ofString "take_free") 345) (Value.ref 119), DictEntry.mk (PyData.keyHash P (Str.ofString "alloc")) (Value.str (Str.ofString "alloc") 353) (Value.ref 126), DictEntry.mk (PyData.keyHash P (Str.ofString "blocks")) (Value.str (Str.ofString "blocks") 360) (Value.ref 133), DictEntry.mk (PyData.keyHash P (Str.ofString "block_of")) (Value.str (Str.ofString "block_of") 368) (Value.ref 140), DictEntry.mk (PyData.keyHash P (Str.ofString "__static_attributes__")) (Value.str (Str.ofString "__static_attributes__") 373) (Value.ref 141), DictEntry.mk (PyData.keyHash P (Str.ofString "__dict__")) (Value.str (Str.ofString "__dict__") 375) (Value.ref 144), DictEntry.mk (PyData.keyHash P (Str.ofString "__weakref__")) (Value.str (Str.ofString "__weakref__") 377) (Value.ref 145), DictEntry.mk (PyData.keyHash P (Str.ofString "__doc__")) (Value.str (Str.ofString "__doc__") 378) Value.none] 4) #[]
@[reducible] noncomputable def o_135 (P : Params) : Obj := Obj.mk (Value.type "type") none (Data.cls (ClassData.mk (Str.ofString "Heap") [Value.type "object"] [Value.ref 143, Value.type "object"] 142 (Str.ofString "Heap") true [] [] false none false)) #[none, none, some (Value.str (Str.ofString "Heap") 282), some (Value.str (Str.ofString "Heap") 290), some (Value.builtin "object.__new__"), some (Value.bool true)]
@[reducible] noncomputable def o_136 (P : Params) : Obj := Obj.mk (Value.type "getset_descriptor") none (Data.fields #[Value.str (Str.ofString "__dict__") 374, Value.ref 143, Value.builtin "function.__dict__", Value.builtin "function.__dict__#set"]) #[]
@[reducible] noncomputable def o_137 (P : Params) : Obj := Obj.mk (Value.type "getset_descriptor") none (Data.fields #[Value.str (Str.ofString "__weakref__") 376, Value.ref 143, Value.builtin "ExceptionGroup.__weakref__", Value.none]) #[]
@[reducible] noncomputable def o_138 (P : Params) : Obj := Obj.mk (Value.type "super") none (Data.fields #[Value.ref 143, Value.ref 143, Value.ref 143]) #[]
@[reducible] noncomputable def o_139 (P : Params) : Obj := Obj.mk (Value.type "builtin_function_or_method") none (Data.fields #[Value.builtin "object.__init_subclass__", Value.ref 143]) #[]
@[reducible] noncomputable def o_140 (P : Params) : Obj := Obj.mk (Value.type "tuple") none (Data.seq #[Value.type "Exception"]) #[]
@[reducible] noncomputable def o_141 (P : Params) : Obj := Obj.mk (Value.type "builtin_function_or_method") none (Data.fields #[Value.builtin "type.__prepare__", Value.type "type"]) #[]
@[reducible] noncomputable def o_142 (P : Params) : Obj := Obj.mk (Value.type "dict") none (Data.dict #[DictEntry.mk (PyData.keyHash P (Str.ofString "__module__")) (Value.str (Str.ofString "__module__") 390) (Value.str (Str.ofString "moduleyard.errors") 381), DictEntry.mk (PyData.keyHash P (Str.ofString "__qualname__")) (Value.str (Str.ofString "__qualname__") 392) (Value.str (Str.ofString "YardError") 391), DictEntry.mk (PyData.keyHash P (Str.ofString "__firstlineno__")) (Value.str (Str.ofString "__firstlineno__") 394) (Value.int 87 393), DictEntry.mk (PyData.keyHash P (Str.ofString "__static_attributes__")) (Value.str (Str.ofString "__static_attributes__") 395) (Value.ref 155)] 4) #[]
@[reducible] noncomputable def o_143 (P : Params) : Obj := Obj.mk (Value.type "tuple") none (Data.seq #[]) #[]
@[reducible] noncomputable def o_144 (P : Params) : Obj := Obj.mk Value.none none (Data.fields #[]) #[]
@[reducible] noncomputable def o_145 (P : Params) : Obj := Obj.mk (Value.type "code") none (Data.fields #[Value.str (Str.ofString "YardError") 385, Value.str (Str.ofString "YardError") 386, Value.str (Str.ofString "/claim/cut.py") 387, Value.int 87 0, Value.int 0 0, Value.int 0 0, Value.int 0 0, Value.int 0 0, Value.ref 151, Value.bool false, Value.int 181 0, Value.ref 152, Value.none, Value.none, Value.none, Value.none, Value.int 388 0, Value.int 87 0, Value.str (Str.ofString "/claim/cut.py") 389]) #[]
@[reducible] noncomputable def o_146 (P : Params) : Obj := Obj.mk (Value.type "frame") none Data.plain #[some (Value.ref 153), some (Value.ref 3), some (Value.ref 150), none, some (Value.str (Str.ofString "moduleyard.errors") 381), none, some (Value.ref 0)]
@[reducible] noncomputable def o_147 (P : Params) : Obj := Obj.mk (Value.type "tuple") none (Data.seq #[]) #[]
@[reducible] noncomputable def o_148 (P : Params) : Obj := Obj.mk (Value.type "dict") none (Data.dict #[DictEntry.mk (PyData.keyHash P (Str.ofString "__module__")) (Value.str (Str.ofString "__module__") 390) (Value.str (Str.ofString "moduleyard.errors") 381), DictEntry.mk (PyData.keyHash P (Str.ofString "__firstlineno__")) (Value.str (Str.ofString "__firstlineno__") 394) (Value.int 87 393), DictEntry.mk (PyData.keyHash P (Str.ofString "__static_attributes__")) (Value.str (Str.ofString "__static_attributes__") 395) (Value.ref 155), DictEntry.mk (PyData.keyHash P (Str.ofString "__weakref__")) (Value.str (Str.ofString "__weakref__") 397) (Value.ref 158), DictEntry.mk (PyData.keyHash P (Str.ofString "__doc__")) (Value.str (Str.ofString "__doc__") 398) Value.none] 3) #[]
@[reducible] noncomputable def o_149 (P : Params) : Obj := Obj.mk (Value.type "type") none (Data.cls (ClassData.mk (Str.ofString "YardError") [Value.type "Exception"] [Value.ref 157, Value.type "Exception", Value.type "BaseException", Value.type "object"] 156 (Str.ofString "YardError") true [] [Value.ref 177] false none false)) #[some (Value.ref 148), none, some (Value.str (Str.ofString "YardError") 383), some (Value.str (Str.ofString "YardError") 391), some (Value.builtin "Exception.__new__"), some (Value.bool true)]
@[reducible] noncomputable def o_150 (P : Params) : Obj := Obj.mk (Value.type "getset_descriptor") none (Data.fields #[Value.str (Str.ofString "__weakref__") 396, Value.ref 157, Value.builtin "ExceptionGroup.__weakref__", Value.none]) #[]
@[reducible] noncomputable def o_151 (P : Params) : Obj := Obj.mk (Value.type "super") none (Data.fields #[Value.ref 157, Value.ref 157, Value.ref 157]) #[]
@[reducible] noncomputable def o_152 (P : Params) : Obj := Obj.mk (Value.type "builtin_function_or_method") none (Data.fields #[Value.builtin "object.__init_subclass__", Value.ref 157]) #[]
@[reducible] noncomputable def o_153 (P : Params) : Obj := Obj.mk (Value.type "tuple") none (Data.seq #[Value.ref 157]) #[]
@[reducible] noncomputable def o_154 (P : Params) : Obj := Obj.mk (Value.type "builtin_function_or_method") none (Data.fields #[Value.builtin "type.__prepare__", Value.type "type"]) #[]
@[reducible] noncomputable def o_155 (P : Params) : Obj := Obj.mk (Value.type "dict") none (Data.dict #[DictEntry.mk (PyData.keyHash P (Str.ofString "__module__")) (Value.str (Str.ofString "__module__") 410) (Value.str (Str.ofString "moduleyard.errors") 381), DictEntry.mk (PyData.keyHash P (Str.ofString "__qualname__")) (Value.str (Str.ofString "__qualname__") 412) (Value.str (Str.ofString "TrapError") 411), DictEntry.mk (PyData.keyHash P (Str.ofString "__firstlineno__")) (Value.str (Str.ofString "__firstlineno__") 414) (Value.int 89 413), DictEntry.mk (PyData.keyHash P (Str.ofString "__init__")) (Value.str (Str.ofString "__init__") 424) (Value.ref 174), DictEntry.mk (PyData.keyHash P (Str.ofString "__static_attributes__")) (Value.str (Str.ofString "__static_attributes__") 428) (Value.ref 175)] 5) #[]
@[reducible] noncomputable def o_156 (P : Params) : Obj := Obj.mk (Value.type "tuple") none (Data.seq #[]) #[]
@[reducible] noncomputable def o_157 (P : Params) : Obj := Obj.mk Value.none none (Data.fields #[Value.int 91 0, Value.int 4 0, Value.ref 173]) #[]
@[reducible] noncomputable def o_158 (P : Params) : Obj := Obj.mk (Value.type "code") none (Data.fields #[Value.str (Str.ofString "TrapError") 405, Value.str (Str.ofString "TrapError") 406, Value.str (Str.ofString "/claim/cut.py") 407, Value.int 89 0, Value.int 0 0, Value.int 0 0, Value.int 0 0, Value.int 0 0, Value.ref 164, Value.bool false, Value.int 181 0, Value.ref 165, Value.none, Value.none, Value.none, Value.none, Value.int 408 0, Value.int 89 0, Value.str (Str.ofString "/claim/cut.py") 409]) #[]
@[reducible] noncomputable def o_159 (P : Params) : Obj := Obj.mk (Value.type "frame") none Data.plain #[some (Value.ref 166), some (Value.ref 3), some (Value.ref 163), none, some (Value.str (Str.ofString "moduleyard.errors") 381), none, some (Value.ref 0)]
@[reducible] noncomputable def o_160 (P : Params) : Obj := Obj.mk (Value.type "tuple") none (Data.seq #[]) #[]
@[reducible] noncomputable def o_161 (P : Params) : Obj := Obj.mk Value.none none (Data.fields #[]) #[]
@[reducible] noncomputable def o_162 (P : Params) : Obj := Obj.mk (Value.type "tuple") none (Data.seq #[Value.str (Str.ofString "self") 418, Value.str (Str.ofString "number") 419, Value.str (Str.ofString "place") 420, Value.str (Str.ofString "module") 421]) #[]
@[reducible] noncomputable def o_163 (P : Params) : Obj := Obj.mk (Value.type "tuple") none (Data.seq #[]) #[]
@[reducible] noncomputable def o_164 (P : Params) : Obj := withDef (s := fnAt 15 0) rfl fun A B S => Obj.mk Value.none none (Data.func (FuncData.mk (Str.ofString "__init__") (Str.ofString "TrapError.__init__") A (FuncBody.stmts B) S 0 [] Value.none Value.none Value.none Value.none none Value.none Value.none 0)) #[]
@[reducible] noncomputable def o_165 (P : Params) : Obj := Obj.mk (Value.type "code") none (Data.fields #[Value.str (Str.ofString "__init__") 415, Value.str (Str.ofString "TrapError.__init__") 416, Value.str (Str.ofString "/claim/cut.py") 417, Value.int 91 0, Value.int 4 0, Value.int 0 0, Value.int 0 0, Value.int 3 0, Value.ref 168, Value.bool true, Value.int 181 0, Value.ref 169, Value.none, Value.ref 170, Value.ref 171, Value.ref 172, Value.int 422 0, Value.int 91 0, Value.str (Str.ofString "/claim/cut.py") 423]) #[]
@[reducible] noncomputable def o_166 (P : Params) : Obj := withDef (s := fnAt 15 0) rfl fun A B S => Obj.mk (Value.type "function") none (Data.func (FuncData.mk (Str.ofString "__init__") (Str.ofString "TrapError.__init__") A (FuncBody.stmts B) S 3 [] Value.none Value.none Value.none (Value.str (Str.ofString "moduleyard.errors") 381) none (Value.ref 173) Value.none 0)) #[]
@[reducible] noncomputable def o_167 (P : Params) : Obj := Obj.mk (Value.type "tuple") none (Data.seq #[Value.str (Str.ofString "module") 425, Value.str (Str.ofString "number") 426, Value.str (Str.ofString "place") 427]) #[]
@[reducible] noncomputable def o_168 (P : Params) : Obj := Obj.mk (Value.type "dict") none (Data.dict #[DictEntry.mk (PyData.keyHash P (Str.ofString "__module__")) (Value.str (Str.ofString "__module__") 410) (Value.str (Str.ofString "moduleyard.errors") 381), DictEntry.mk (PyData.keyHash P (Str.ofString "__firstlineno__")) (Value.str (Str.ofString "__firstlineno__") 414) (Value.int 89 413), DictEntry.mk (PyData.keyHash P (Str.ofString "__init__")) (Value.str (Str.ofString "__init__") 424) (Value.ref 174), DictEntry.mk (PyData.keyHash P (Str.ofString "__static_attributes__")) (Value.str (Str.ofString "__static_attributes__") 428) (Value.ref 175), DictEntry.mk (PyData.keyHash P (Str.ofString "__doc__")) (Value.str (Str.ofString "__doc__") 429) Value.none] 2) #[]
@[reducible] noncomputable def o_169 (P : Params) : Obj := Obj.mk (Value.type "type") none (Data.cls (ClassData.mk (Str.ofString "TrapError") [Value.ref 157] [Value.ref 177, Value.ref 157, Value.type "Exception", Value.type "BaseException", Value.type "object"] 176 (Str.ofString "TrapError") true [] [] false none false)) #[some (Value.ref 161), none, some (Value.str (Str.ofString "TrapError") 403), some (Value.str (Str.ofString "TrapError") 411), some (Value.builtin "Exception.__new__"), some (Value.bool true)]
@[reducible] noncomputable def o_170 (P : Params) : Obj := Obj.mk (Value.type "super") none (Data.fields #[Value.ref 177, Value.ref 177, Value.ref 177]) #[]
@[reducible] noncomputable def o_171 (P : Params) : Obj := Obj.mk (Value.type "builtin_function_or_method") none (Data.fields #[Value.builtin "object.__init_subclass__", Value.ref 177]) #[]
@[reducible] noncomputable def o_172 (P : Params) : Obj := Obj.mk (Value.type "tuple") none (Data.seq #[]) #[]
@[reducible] noncomputable def o_173 (P : Params) : Obj := Obj.mk (Value.type "builtin_function_or_method") none (Data.fields #[Value.builtin "type.__prepare__", Value.type "type"]) #[]
@[reducible] noncomputable def o_174 (P : Params) : Obj := Obj.mk (Value.type "dict") none (Data.dict #[DictEntry.mk (PyData.keyHash P (Str.ofString "__module__")) (Value.str (Str.ofString "__module__") 441) (Value.str (Str.ofString "moduleyard.cpu") 432), DictEntry.mk (PyData.keyHash P (Str.ofString "__qualname__")) (Value.str (Str.ofString "__qualname__") 443) (Value.str (Str.ofString "Cpu") 442), DictEntry.mk (PyData.keyHash P (Str.ofString "__firstlineno__")) (Value.str (Str.ofString "__firstlineno__") 445) (Value.int 96 444), DictEntry.mk (PyData.keyHash P (Str.ofString "__init__")) (Value.str (Str.ofString "__init__") 453) (Value.ref 193), DictEntry.mk (PyData.keyHash P (Str.ofString "step")) (Value.str (Str.ofString "step") 460) (Value.ref 200), DictEntry.mk (PyData.keyHash P (Str.ofString "transfer")) (Value.str (Str.ofString "transfer") 470) (Value.ref 207), DictEntry.mk (PyData.keyHash P (Str.ofString "flags")) (Value.str (Str.ofString "flags") 477) (Value.ref 214), DictEntry.mk (PyData.keyHash P (Str.ofString "branch")) (Value.str (Str.ofString "branch") 486) (Value.ref 221), DictEntry.mk (PyData.keyHash P (Str.ofString "set_result")) (Value.str (Str.ofString "set_result") 495) (Value.ref 228), DictEntry.mk (PyData.keyHash P (Str.ofString "calculate")) (Value.str (Str.ofString "calculate") 504) (Value.ref 235), DictEntry.mk (PyData.keyHash P (Str.ofString "run")) (Value.str (Str.ofString "run") 512) (Value.ref 242), DictEntry.mk (PyData.keyHash P (Str.ofString "__static_attributes__")) (Value.str (Str.ofString "__static_attributes__") 522) (Value.ref 243)] 12) #[]
@[reducible] noncomputable def o_175 (P : Params) : Obj := Obj.mk (Value.type "tuple") none (Data.seq #[]) #[]
@[reducible] noncomputable def o_176 (P : Params) : Obj := Obj.mk Value.none none (Data.fields #[Value.int 98 0, Value.int 4 0, Value.ref 192, Value.int 109 0, Value.int 4 0, Value.ref 199, Value.int 112 0, Value.int 4 0, Value.ref 206, Value.int 115 0, Value.int 4 0, Value.ref 213, Value.int 118 0, Value.int 4 0, Value.ref 220, Value.int 121 0, Value.int 4 0, Value.ref 227, Value.int 124 0, Value.int 4 0, Value.ref 234, Value.int 127 0, Value.int 4 0, Value.ref 241]) #[]
@[reducible] noncomputable def o_177 (P : Params) : Obj := Obj.mk (Value.type "code") none (Data.fields #[Value.str (Str.ofString "Cpu") 436, Value.str (Str.ofString "Cpu") 437, Value.str (Str.ofString "/claim/cut.py") 438, Value.int 96 0, Value.int 0 0, Value.int 0 0, Value.int 0 0, Value.int 0 0, Value.ref 183, Value.bool false, Value.int 181 0, Value.ref 184, Value.none, Value.none, Value.none, Value.none, Value.int 439 0, Value.int 96 0, Value.str (Str.ofString "/claim/cut.py") 440]) #[]
@[reducible] noncomputable def o_178 (P : Params) : Obj := Obj.mk (Value.type "frame") none Data.plain #[some (Value.ref 185), some (Value.ref 3), some (Value.ref 182), none, some (Value.str (Str.ofString "moduleyard.cpu") 432), none, some (Value.ref 0)]
@[reducible] noncomputable def o_179 (P : Params) : Obj := Obj.mk (Value.type "tuple") none (Data.seq #[]) #[]
@[reducible] noncomputable def o_180 (P : Params) : Obj := Obj.mk Value.none none (Data.fields #[]) #[]
@[reducible] noncomputable def o_181 (P : Params) : Obj := Obj.mk (Value.type "tuple") none (Data.seq #[Value.str (Str.ofString "self") 449, Value.str (Str.ofString "memory") 450]) #[]
@[reducible] noncomputable def o_182 (P : Params) : Obj := Obj.mk (Value.type "tuple") none (Data.seq #[]) #[]
@[reducible] noncomputable def o_183 (P : Params) : Obj := withDef (s := fnAt 17 0) rfl fun A B S => Obj.mk Value.none none (Data.func (FuncData.mk (Str.ofString "__init__") (Str.ofString "Cpu.__init__") A (FuncBody.stmts B) S 0 [] Value.none Value.none Value.none Value.none none Value.none Value.none 0)) #[]
@[reducible] noncomputable def o_184 (P : Params) : Obj := Obj.mk (Value.type "code") none (Data.fields #[Value.str (Str.ofString "__init__") 446, Value.str (Str.ofString "Cpu.__init__") 447, Value.str (Str.ofString "/claim/cut.py") 448, Value.int 98 0, Value.int 2 0, Value.int 0 0, Value.int 0 0, Value.int 3 0, Value.ref 187, Value.bool true, Value.int 181 0, Value.ref 188, Value.none, Value.ref 189, Value.ref 190, Value.ref 191, Value.int 451 0, Value.int 98 0, Value.str (Str.ofString "/claim/cut.py") 452]) #[]
@[reducible] noncomputable def o_185 (P : Params) : Obj := withDef (s := fnAt 17 0) rfl fun A B S => Obj.mk (Value.type "function") none (Data.func (FuncData.mk (Str.ofString "__init__") (Str.ofString "Cpu.__init__") A (FuncBody.stmts B) S 3 [] Value.none Value.none Value.none (Value.str (Str.ofString "moduleyard.cpu") 432) none (Value.ref 192) Value.none 0)) #[]
@[reducible] noncomputable def o_186 (P : Params) : Obj := Obj.mk (Value.type "tuple") none (Data.seq #[]) #[]
@[reducible] noncomputable def o_187 (P : Params) : Obj := Obj.mk Value.none none (Data.fields #[]) #[]
@[reducible] noncomputable def o_188 (P : Params) : Obj := Obj.mk (Value.type "tuple") none (Data.seq #[Value.str (Str.ofString "self") 457]) #[]
@[reducible] noncomputable def o_189 (P : Params) : Obj := Obj.mk (Value.type "tuple") none (Data.seq #[]) #[]
@[reducible] noncomputable def o_190 (P : Params) : Obj := withDef (s := fnAt 17 1) rfl fun A B S => Obj.mk Value.none none (Data.func (FuncData.mk (Str.ofString "step") (Str.ofString "Cpu.step") A (FuncBody.stmts B) S 0 [] Value.none Value.none Value.none Value.none none Value.none Value.none 0)) #[]
@[reducible] noncomputable def o_191 (P : Params) : Obj := Obj.mk (Value.type "code") none (Data.fields #[Value.str (Str.ofString "step") 454, Value.str (Str.ofString "Cpu.step") 455, Value.str (Str.ofString "/claim/cut.py") 456, Value.int 109 0, Value.int 1 0, Value.int 0 0, Value.int 0 0, Value.int 3 0, Value.ref 194, Value.bool true, Value.int 181 0, Value.ref 195, Value.none, Value.ref 196, Value.ref 197, Value.ref 198, Value.int 458 0, Value.int 109 0, Value.str (Str.ofString "/claim/cut.py") 459]) #[]
@[reducible] noncomputable def o_192 (P : Params) : Obj := withDef (s := fnAt 17 1) rfl fun A B S => Obj.mk (Value.type "function") none (Data.func (FuncData.mk (Str.ofString "step") (Str.ofString "Cpu.step") A (FuncBody.stmts B) S 3 [] Value.none Value.none Value.none (Value.str (Str.ofString "moduleyard.cpu") 432) none (Value.ref 199) Value.none 0)) #[]
@[reducible] noncomputable def o_193 (P : Params) : Obj := Obj.mk (Value.type "tuple") none (Data.seq #[]) #[]
@[reducible] noncomputable def o_194 (P : Params) : Obj := Obj.mk Value.none none (Data.fields #[]) #[]
@[reducible] noncomputable def o_195 (P : Params) : Obj := Obj.mk (Value.type "tuple") none (Data.seq #[Value.str (Str.ofString "self") 464, Value.str (Str.ofString "name") 465, Value.str (Str.ofString "register") 466, Value.str (Str.ofString "address") 467]) #[]
@[reducible] noncomputable def o_196 (P : Params) : Obj := Obj.mk (Value.type "tuple") none (Data.seq #[]) #[]
@[reducible] noncomputable def o_197 (P : Params) : Obj := withDef (s := fnAt 17 2) rfl fun A B S => Obj.mk Value.none none (Data.func (FuncData.mk (Str.ofString "transfer") (Str.ofString "Cpu.transfer") A (FuncBody.stmts B) S 0 [] Value.none Value.none Value.none Value.none none Value.none Value.none 0)) #[]
@[reducible] noncomputable def o_198 (P : Params) : Obj := Obj.mk (Value.type "code") none (Data.fields #[Value.str (Str.ofString "transfer") 461, Value.str (Str.ofString "Cpu.transfer") 462, Value.str (Str.ofString "/claim/cut.py") 463, Value.int 112 0, Value.int 4 0, Value.int 0 0, Value.int 0 0, Value.int 3 0, Value.ref 201, Value.bool true, Value.int 181 0, Value.ref 202, Value.none, Value.ref 203, Value.ref 204, Value.ref 205, Value.int 468 0, Value.int 112 0, Value.str (Str.ofString "/claim/cut.py") 469]) #[]
@[reducible] noncomputable def o_199 (P : Params) : Obj := withDef (s := fnAt 17 2) rfl fun A B S => Obj.mk (Value.type "function") none (Data.func (FuncData.mk (Str.ofString "transfer") (Str.ofString "Cpu.transfer") A (FuncBody.stmts B) S 3 [] Value.none Value.none Value.none (Value.str (Str.ofString "moduleyard.cpu") 432) none (Value.ref 206) Value.none 0)) #[]
@[reducible] noncomputable def o_200 (P : Params) : Obj := Obj.mk (Value.type "tuple") none (Data.seq #[]) #[]
@[reducible] noncomputable def o_201 (P : Params) : Obj := Obj.mk Value.none none (Data.fields #[]) #[]
@[reducible] noncomputable def o_202 (P : Params) : Obj := Obj.mk (Value.type "tuple") none (Data.seq #[Value.str (Str.ofString "self") 474]) #[]
@[reducible] noncomputable def o_203 (P : Params) : Obj := Obj.mk (Value.type "tuple") none (Data.seq #[]) #[]
@[reducible] noncomputable def o_204 (P : Params) : Obj := withDef (s := fnAt 17 3) rfl fun A B S => Obj.mk Value.none none (Data.func (FuncData.mk (Str.ofString "flags") (Str.ofString "Cpu.flags") A (FuncBody.stmts B) S 0 [] Value.none Value.none Value.none Value.none none Value.none Value.none 0)) #[]
@[reducible] noncomputable def o_205 (P : Params) : Obj := Obj.mk (Value.type "code") none (Data.fields #[Value.str (Str.ofString "flags") 471, Value.str (Str.ofString "Cpu.flags") 472, Value.str (Str.ofString "/claim/cut.py") 473, Value.int 115 0, Value.int 1 0, Value.int 0 0, Value.int 0 0, Value.int 3 0, Value.ref 208, Value.bool true, Value.int 181 0, Value.ref 209, Value.none, Value.ref 210, Value.ref 211, Value.ref 212, Value.int 475 0, Value.int 115 0, Value.str (Str.ofString "/claim/cut.py") 476]) #[]
@[reducible] noncomputable def o_206 (P : Params) : Obj := withDef (s := fnAt 17 3) rfl fun A B S => Obj.mk (Value.type "function") none (Data.func (FuncData.mk (Str.ofString "flags") (Str.ofString "Cpu.flags") A (FuncBody.stmts B) S 3 [] Value.none Value.none Value.none (Value.str (Str.ofString "moduleyard.cpu") 432) none (Value.ref 213) Value.none 0)) #[]
@[reducible] noncomputable def o_207 (P : Params) : Obj := Obj.mk (Value.type "tuple") none (Data.seq #[]) #[]
@[reducible] noncomputable def o_208 (P : Params) : Obj := Obj.mk Value.none none (Data.fields #[]) #[]
@[reducible] noncomputable def o_209 (P : Params) : Obj := Obj.mk (Value.type "tuple") none (Data.seq #[Value.str (Str.ofString "self") 481, Value.str (Str.ofString "name") 482, Value.str (Str.ofString "row") 483]) #[]
@[reducible] noncomputable def o_210 (P : Params) : Obj := Obj.mk (Value.type "tuple") none (Data.seq #[]) #[]
@[reducible] noncomputable def o_211 (P : Params) : Obj := withDef (s := fnAt 17 4) rfl fun A B S => Obj.mk Value.none none (Data.func (FuncData.mk (Str.ofString "branch") (Str.ofString "Cpu.branch") A (FuncBody.stmts B) S 0 [] Value.none Value.none Value.none Value.none none Value.none Value.none 0)) #[]
@[reducible] noncomputable def o_212 (P : Params) : Obj := Obj.mk (Value.type "code") none (Data.fields #[Value.str (Str.ofString "branch") 478, Value.str (Str.ofString "Cpu.branch") 479, Value.str (Str.ofString "/claim/cut.py") 480, Value.int 118 0, Value.int 3 0, Value.int 0 0, Value.int 0 0, Value.int 3 0, Value.ref 215, Value.bool true, Value.int 181 0, Value.ref 216, Value.none, Value.ref 217, Value.ref 218, Value.ref 219, Value.int 484 0, Value.int 118 0, Value.str (Str.ofString "/claim/cut.py") 485]) #[]
@[reducible] noncomputable def o_213 (P : Params) : Obj := withDef (s := fnAt 17 4) rfl fun A B S => Obj.mk (Value.type "function") none (Data.func (FuncData.mk (Str.ofString "branch") (Str.ofString "Cpu.branch") A (FuncBody.stmts B) S 3 [] Value.none Value.none Value.none (Value.str (Str.ofString "moduleyard.cpu") 432) none (Value.ref 220) Value.none 0)) #[]
@[reducible] noncomputable def o_214 (P : Params) : Obj := Obj.mk (Value.type "tuple") none (Data.seq #[]) #[]
@[reducible] noncomputable def o_215 (P : Params) : Obj := Obj.mk Value.none none (Data.fields #[]) #[]
@[reducible] noncomputable def o_216 (P : Params) : Obj := Obj.mk (Value.type "tuple") none (Data.seq #[Value.str (Str.ofString "self") 490, Value.str (Str.ofString "register") 491, Value.str (Str.ofString "result") 492]) #[]
@[reducible] noncomputable def o_217 (P : Params) : Obj := Obj.mk (Value.type "tuple") none (Data.seq #[]) #[]
@[reducible] noncomputable def o_218 (P : Params) : Obj := withDef (s := fnAt 17 5) rfl fun A B S => Obj.mk Value.none none (Data.func (FuncData.mk (Str.ofString "set_result") (Str.ofString "Cpu.set_result") A (FuncBody.stmts B) S 0 [] Value.none Value.none Value.none Value.none none Value.none Value.none 0)) #[]
@[reducible] noncomputable def o_219 (P : Params) : Obj := Obj.mk (Value.type "code") none (Data.fields #[Value.str (Str.ofString "set_result") 487, Value.str (Str.ofString "Cpu.set_result") 488, Value.str (Str.ofString "/claim/cut.py") 489, Value.int 121 0, Value.int 3 0, Value.int 0 0, Value.int 0 0, Value.int 3 0, Value.ref 222, Value.bool true, Value.int 181 0, Value.ref 223, Value.none, Value.ref 224, Value.ref 225, Value.ref 226, Value.int 493 0, Value.int 121 0, Value.str (Str.ofString "/claim/cut.py") 494]) #[]
@[reducible] noncomputable def o_220 (P : Params) : Obj := withDef (s := fnAt 17 5) rfl fun A B S => Obj.mk (Value.type "function") none (Data.func (FuncData.mk (Str.ofString "set_result") (Str.ofString "Cpu.set_result") A (FuncBody.stmts B) S 3 [] Value.none Value.none Value.none (Value.str (Str.ofString "moduleyard.cpu") 432) none (Value.ref 227) Value.none 0)) #[]
@[reducible] noncomputable def o_221 (P : Params) : Obj := Obj.mk (Value.type "tuple") none (Data.seq #[]) #[]
@[reducible] noncomputable def o_222 (P : Params) : Obj := Obj.mk Value.none none (Data.fields #[]) #[]
@[reducible] noncomputable def o_223 (P : Params) : Obj := Obj.mk (Value.type "tuple") none (Data.seq #[Value.str (Str.ofString "self") 499, Value.str (Str.ofString "name") 500, Value.str (Str.ofString "row") 501]) #[]
@[reducible] noncomputable def o_224 (P : Params) : Obj := Obj.mk (Value.type "tuple") none (Data.seq #[]) #[]
@[reducible] noncomputable def o_225 (P : Params) : Obj := withDef (s := fnAt 17 6) rfl fun A B S => Obj.mk Value.none none (Data.func (FuncData.mk (Str.ofString "calculate") (Str.ofString "Cpu.calculate") A (FuncBody.stmts B) S 0 [] Value.none Value.none Value.none Value.none none Value.none Value.none 0)) #[]
@[reducible] noncomputable def o_226 (P : Params) : Obj := Obj.mk (Value.type "code") none (Data.fields #[Value.str (Str.ofString "calculate") 496, Value.str (Str.ofString "Cpu.calculate") 497, Value.str (Str.ofString "/claim/cut.py") 498, Value.int 124 0, Value.int 3 0, Value.int 0 0, Value.int 0 0, Value.int 3 0, Value.ref 229, Value.bool true, Value.int 181 0, Value.ref 230, Value.none, Value.ref 231, Value.ref 232, Value.ref 233, Value.int 502 0, Value.int 124 0, Value.str (Str.ofString "/claim/cut.py") 503]) #[]
@[reducible] noncomputable def o_227 (P : Params) : Obj := withDef (s := fnAt 17 6) rfl fun A B S => Obj.mk (Value.type "function") none (Data.func (FuncData.mk (Str.ofString "calculate") (Str.ofString "Cpu.calculate") A (FuncBody.stmts B) S 3 [] Value.none Value.none Value.none (Value.str (Str.ofString "moduleyard.cpu") 432) none (Value.ref 234) Value.none 0)) #[]
@[reducible] noncomputable def o_228 (P : Params) : Obj := Obj.mk (Value.type "tuple") none (Data.seq #[]) #[]
@[reducible] noncomputable def o_229 (P : Params) : Obj := Obj.mk Value.none none (Data.fields #[]) #[]
@[reducible] noncomputable def o_230 (P : Params) : Obj := Obj.mk (Value.type "tuple") none (Data.seq #[Value.str (Str.ofString "self") 508, Value.str (Str.ofString "limit") 509]) #[]
@[reducible] noncomputable def o_231 (P : Params) : Obj := Obj.mk (Value.type "tuple") none (Data.seq #[]) #[]
@[reducible] noncomputable def o_232 (P : Params) : Obj := withDef (s := fnAt 17 7) rfl fun A B S => Obj.mk Value.none none (Data.func (FuncData.mk (Str.ofString "run") (Str.ofString "Cpu.run") A (FuncBody.stmts B) S 0 [] Value.none Value.none Value.none Value.none none Value.none Value.none 0)) #[]
@[reducible] noncomputable def o_233 (P : Params) : Obj := Obj.mk (Value.type "code") none (Data.fields #[Value.str (Str.ofString "run") 505, Value.str (Str.ofString "Cpu.run") 506, Value.str (Str.ofString "/claim/cut.py") 507, Value.int 127 0, Value.int 2 0, Value.int 0 0, Value.int 0 0, Value.int 3 0, Value.ref 236, Value.bool true, Value.int 181 0, Value.ref 237, Value.none, Value.ref 238, Value.ref 239, Value.ref 240, Value.int 510 0, Value.int 127 0, Value.str (Str.ofString "/claim/cut.py") 511]) #[]
@[reducible] noncomputable def o_234 (P : Params) : Obj := withDef (s := fnAt 17 7) rfl fun A B S => Obj.mk (Value.type "function") none (Data.func (FuncData.mk (Str.ofString "run") (Str.ofString "Cpu.run") A (FuncBody.stmts B) S 3 [] Value.none Value.none Value.none (Value.str (Str.ofString "moduleyard.cpu") 432) none (Value.ref 241) Value.none 0)) #[]
@[reducible] noncomputable def o_235 (P : Params) : Obj := Obj.mk (Value.type "tuple") none (Data.seq #[Value.str (Str.ofString "c") 513, Value.str (Str.ofString "h") 514, Value.str (Str.ofString "memory") 515, Value.str (Str.ofString "n") 516, Value.str (Str.ofString "pc") 517, Value.str (Str.ofString "regs") 518, Value.str (Str.ofString "rows") 519, Value.str (Str.ofString "v") 520, Value.str (Str.ofString "z") 521]) #[]
@[reducible] noncomputable def o_236 (P : Params) : Obj := Obj.mk (Value.type "dict") none (Data.dict #[DictEntry.mk (PyData.keyHash P (Str.ofString "__module__")) (Value.str (Str.ofString "__module__") 441) (Value.str (Str.ofString "moduleyard.cpu") 432), DictEntry.mk (PyData.keyHash P (Str.ofString "__firstlineno__")) (Value.str (Str.ofString "__firstlineno__") 445) (Value.int 96 444), DictEntry.mk (PyData.keyHash P (Str.ofString "__init__")) (Value.str (Str.ofString "__init__") 453) (Value.ref 193), DictEntry.mk (PyData.keyHash P (Str.ofString "step")) (Value.str (Str.ofString "step") 460) (Value.ref 200), DictEntry.mk (PyData.keyHash P (Str.ofString "transfer")) (Value.str (Str.ofString "transfer") 470) (Value.ref 207), DictEntry.mk (PyData.keyHash P (Str.ofString "flags")) (Value.str (Str.ofString "flags") 477) (Value.ref 214), DictEntry.mk (PyData.keyHash P (Str.ofString "branch")) (Value.str (Str.ofString "branch") 486) (Value.ref 221), DictEntry.mk (PyData.keyHash P (Str.ofString "set_result")) (Value.str (Str.ofString "set_result") 495) (Value.ref 228), DictEntry.mk (PyData.keyHash P (Str.ofString "calculate")) (Value.str (Str.ofString "calculate") 504) (Value.ref 235), DictEntry.mk (PyData.keyHash P (Str.ofString "run")) (Value.str (Str.ofString "run") 512) (Value.ref 242), DictEntry.mk (PyData.keyHash P (Str.ofString "__static_attributes__")) (Value.str (Str.ofString "__static_attributes__") 522) (Value.ref 243), DictEntry.mk (PyData.keyHash P (Str.ofString "__dict__")) (Value.str (Str.ofString "__dict__") 524) (Value.ref 246), DictEntry.mk (PyData.keyHash P (Str.ofString "__weakref__")) (Value.str (Str.ofString "__weakref__") 526) (Value.ref 247), DictEntry.mk (PyData.keyHash P (Str.ofString "__doc__")) (Value.str (Str.ofString "__doc__") 527) Value.none] 4) #[]
@[reducible] noncomputable def o_237 (P : Params) : Obj := Obj.mk (Value.type "type") none (Data.cls (ClassData.mk (Str.ofString "Cpu") [Value.type "object"] [Value.ref 245, Value.type "object"] 244 (Str.ofString "Cpu") true [] [] false none false)) #[none, none, some (Value.str (Str.ofString "Cpu") 434), some (Value.str (Str.ofString "Cpu") 442), some (Value.builtin "object.__new__"), some (Value.bool true)]
@[reducible] noncomputable def o_238 (P : Params) : Obj := Obj.mk (Value.type "getset_descriptor") none (Data.fields #[Value.str (Str.ofString "__dict__") 523, Value.ref 245, Value.builtin "function.__dict__", Value.builtin "function.__dict__#set"]) #[]
@[reducible] noncomputable def o_239 (P : Params) : Obj := Obj.mk (Value.type "getset_descriptor") none (Data.fields #[Value.str (Str.ofString "__weakref__") 525, Value.ref 245, Value.builtin "ExceptionGroup.__weakref__", Value.none]) #[]
@[reducible] noncomputable def o_240 (P : Params) : Obj := Obj.mk (Value.type "super") none (Data.fields #[Value.ref 245, Value.ref 245, Value.ref 245]) #[]
@[reducible] noncomputable def o_241 (P : Params) : Obj := Obj.mk (Value.type "builtin_function_or_method") none (Data.fields #[Value.builtin "object.__init_subclass__", Value.ref 245]) #[]
@[reducible] noncomputable def o_242 (P : Params) : Obj := Obj.mk (Value.type "tuple") none (Data.seq #[]) #[]
@[reducible] noncomputable def o_243 (P : Params) : Obj := Obj.mk (Value.type "builtin_function_or_method") none (Data.fields #[Value.builtin "type.__prepare__", Value.type "type"]) #[]
@[reducible] noncomputable def o_244 (P : Params) : Obj := Obj.mk (Value.type "dict") none (Data.dict #[DictEntry.mk (PyData.keyHash P (Str.ofString "__module__")) (Value.str (Str.ofString "__module__") 541) (Value.str (Str.ofString "moduleyard.memory") 530), DictEntry.mk (PyData.keyHash P (Str.ofString "__qualname__")) (Value.str (Str.ofString "__qualname__") 543) (Value.str (Str.ofString "Memory") 542), DictEntry.mk (PyData.keyHash P (Str.ofString "__firstlineno__")) (Value.str (Str.ofString "__firstlineno__") 545) (Value.int 131 544), DictEntry.mk (PyData.keyHash P (Str.ofString "__init__")) (Value.str (Str.ofString "__init__") 553) (Value.ref 263), DictEntry.mk (PyData.keyHash P (Str.ofString "place")) (Value.str (Str.ofString "place") 561) (Value.ref 270), DictEntry.mk (PyData.keyHash P (Str.ofString "word")) (Value.str (Str.ofString "word") 569) (Value.ref 277), DictEntry.mk (PyData.keyHash P (Str.ofString "put_word")) (Value.str (Str.ofString "put_word") 578) (Value.ref 284), DictEntry.mk (PyData.keyHash P (Str.ofString "byte")) (Value.str (Str.ofString "byte") 586) (Value.ref 291), DictEntry.mk (PyData.keyHash P (Str.ofString "put_byte")) (Value.str (Str.ofString "put_byte") 595) (Value.ref 298), DictEntry.mk (PyData.keyHash P (Str.ofString "__static_attributes__")) (Value.str (Str.ofString "__static_attributes__") 598) (Value.ref 299)] 10) #[]
@[reducible] noncomputable def o_245 (P : Params) : Obj := Obj.mk (Value.type "tuple") none (Data.seq #[]) #[]
@[reducible] noncomputable def o_246 (P : Params) : Obj := Obj.mk Value.none none (Data.fields #[Value.int 133 0, Value.int 4 0, Value.ref 262, Value.int 137 0, Value.int 4 0, Value.ref 269, Value.int 142 0, Value.int 4 0, Value.ref 276, Value.int 145 0, Value.int 4 0, Value.ref 283, Value.int 148 0, Value.int 4 0, Value.ref 290, Value.int 151 0, Value.int 4 0, Value.ref 297]) #[]
@[reducible] noncomputable def o_247 (P : Params) : Obj := Obj.mk (Value.type "code") none (Data.fields #[Value.str (Str.ofString "Memory") 536, Value.str (Str.ofString "Memory") 537, Value.str (Str.ofString "/claim/cut.py") 538, Value.int 131 0, Value.int 0 0, Value.int 0 0, Value.int 0 0, Value.int 0 0, Value.ref 253, Value.bool false, Value.int 181 0, Value.ref 254, Value.none, Value.none, Value.none, Value.none, Value.int 539 0, Value.int 131 0, Value.str (Str.ofString "/claim/cut.py") 540]) #[]
@[reducible] noncomputable def o_248 (P : Params) : Obj := Obj.mk (Value.type "frame") none Data.plain #[some (Value.ref 255), some (Value.ref 3), some (Value.ref 252), none, some (Value.str (Str.ofString "moduleyard.memory") 530), none, some (Value.ref 0)]
@[reducible] noncomputable def o_249 (P : Params) : Obj := Obj.mk (Value.type "tuple") none (Data.seq #[]) #[]
@[reducible] noncomputable def o_250 (P : Params) : Obj := Obj.mk Value.none none (Data.fields #[]) #[]
@[reducible] noncomputable def o_251 (P : Params) : Obj := Obj.mk (Value.type "tuple") none (Data.seq #[Value.str (Str.ofString "self") 549, Value.str (Str.ofString "size") 550]) #[]
@[reducible] noncomputable def o_252 (P : Params) : Obj := Obj.mk (Value.type "tuple") none (Data.seq #[]) #[]
@[reducible] noncomputable def o_253 (P : Params) : Obj := withDef (s := fnAt 20 0) rfl fun A B S => Obj.mk Value.none none (Data.func (FuncData.mk (Str.ofString "__init__") (Str.ofString "Memory.__init__") A (FuncBody.stmts B) S 0 [] Value.none Value.none Value.none Value.none none Value.none Value.none 0)) #[]
@[reducible] noncomputable def o_254 (P : Params) : Obj := Obj.mk (Value.type "code") none (Data.fields #[Value.str (Str.ofString "__init__") 546, Value.str (Str.ofString "Memory.__init__") 547, Value.str (Str.ofString "/claim/cut.py") 548, Value.int 133 0, Value.int 2 0, Value.int 0 0, Value.int 0 0, Value.int 3 0, Value.ref 257, Value.bool true, Value.int 181 0, Value.ref 258, Value.none, Value.ref 259, Value.ref 260, Value.ref 261, Value.int 551 0, Value.int 133 0, Value.str (Str.ofString "/claim/cut.py") 552]) #[]
@[reducible] noncomputable def o_255 (P : Params) : Obj := withDef (s := fnAt 20 0) rfl fun A B S => Obj.mk (Value.type "function") none (Data.func (FuncData.mk (Str.ofString "__init__") (Str.ofString "Memory.__init__") A (FuncBody.stmts B) S 3 [] Value.none Value.none Value.none (Value.str (Str.ofString "moduleyard.memory") 530) none (Value.ref 262) Value.none 0)) #[]
@[reducible] noncomputable def o_256 (P : Params) : Obj := Obj.mk (Value.type "tuple") none (Data.seq #[]) #[]
@[reducible] noncomputable def o_257 (P : Params) : Obj := Obj.mk Value.none none (Data.fields #[]) #[]
@[reducible] noncomputable def o_258 (P : Params) : Obj := Obj.mk (Value.type "tuple") none (Data.seq #[Value.str (Str.ofString "self") 557, Value.str (Str.ofString "address") 558]) #[]
@[reducible] noncomputable def o_259 (P : Params) : Obj := Obj.mk (Value.type "tuple") none (Data.seq #[]) #[]
@[reducible] noncomputable def o_260 (P : Params) : Obj := withDef (s := fnAt 20 1) rfl fun A B S => Obj.mk Value.none none (Data.func (FuncData.mk (Str.ofString "place") (Str.ofString "Memory.place") A (FuncBody.stmts B) S 0 [] Value.none Value.none Value.none Value.none none Value.none Value.none 0)) #[]
@[reducible] noncomputable def o_261 (P : Params) : Obj := Obj.mk (Value.type "code") none (Data.fields #[Value.str (Str.ofString "place") 554, Value.str (Str.ofString "Memory.place") 555, Value.str (Str.ofString "/claim/cut.py") 556, Value.int 137 0, Value.int 2 0, Value.int 0 0, Value.int 0 0, Value.int 3 0, Value.ref 264, Value.bool true, Value.int 181 0, Value.ref 265, Value.none, Value.ref 266, Value.ref 267, Value.ref 268, Value.int 559 0, Value.int 137 0, Value.str (Str.ofString "/claim/cut.py") 560]) #[]
@[reducible] noncomputable def o_262 (P : Params) : Obj := withDef (s := fnAt 20 1) rfl fun A B S => Obj.mk (Value.type "function") none (Data.func (FuncData.mk (Str.ofString "place") (Str.ofString "Memory.place") A (FuncBody.stmts B) S 3 [] Value.none Value.none Value.none (Value.str (Str.ofString "moduleyard.memory") 530) none (Value.ref 269) Value.none 0)) #[]
@[reducible] noncomputable def o_263 (P : Params) : Obj := Obj.mk (Value.type "tuple") none (Data.seq #[]) #[]
@[reducible] noncomputable def o_264 (P : Params) : Obj := Obj.mk Value.none none (Data.fields #[]) #[]
@[reducible] noncomputable def o_265 (P : Params) : Obj := Obj.mk (Value.type "tuple") none (Data.seq #[Value.str (Str.ofString "self") 565, Value.str (Str.ofString "address") 566]) #[]
@[reducible] noncomputable def o_266 (P : Params) : Obj := Obj.mk (Value.type "tuple") none (Data.seq #[]) #[]
@[reducible] noncomputable def o_267 (P : Params) : Obj := withDef (s := fnAt 20 2) rfl fun A B S => Obj.mk Value.none none (Data.func (FuncData.mk (Str.ofString "word") (Str.ofString "Memory.word") A (FuncBody.stmts B) S 0 [] Value.none Value.none Value.none Value.none none Value.none Value.none 0)) #[]
@[reducible] noncomputable def o_268 (P : Params) : Obj := Obj.mk (Value.type "code") none (Data.fields #[Value.str (Str.ofString "word") 562, Value.str (Str.ofString "Memory.word") 563, Value.str (Str.ofString "/claim/cut.py") 564, Value.int 142 0, Value.int 2 0, Value.int 0 0, Value.int 0 0, Value.int 3 0, Value.ref 271, Value.bool true, Value.int 181 0, Value.ref 272, Value.none, Value.ref 273, Value.ref 274, Value.ref 275, Value.int 567 0, Value.int 142 0, Value.str (Str.ofString "/claim/cut.py") 568]) #[]
@[reducible] noncomputable def o_269 (P : Params) : Obj := withDef (s := fnAt 20 2) rfl fun A B S => Obj.mk (Value.type "function") none (Data.func (FuncData.mk (Str.ofString "word") (Str.ofString "Memory.word") A (FuncBody.stmts B) S 3 [] Value.none Value.none Value.none (Value.str (Str.ofString "moduleyard.memory") 530) none (Value.ref 276) Value.none 0)) #[]
@[reducible] noncomputable def o_270 (P : Params) : Obj := Obj.mk (Value.type "tuple") none (Data.seq #[]) #[]
@[reducible] noncomputable def o_271 (P : Params) : Obj := Obj.mk Value.none none (Data.fields #[]) #[]
@[reducible] noncomputable def o_272 (P : Params) : Obj := Obj.mk (Value.type "tuple") none (Data.seq #[Value.str (Str.ofString "self") 573, Value.str (Str.ofString "address") 574, Value.str (Str.ofString "value") 575]) #[]
@[reducible] noncomputable def o_273 (P : Params) : Obj := Obj.mk (Value.type "tuple") none (Data.seq #[]) #[]
@[reducible] noncomputable def o_274 (P : Params) : Obj := withDef (s := fnAt 20 3) rfl fun A B S => Obj.mk Value.none none (Data.func (FuncData.mk (Str.ofString "put_word") (Str.ofString "Memory.put_word") A (FuncBody.stmts B) S 0 [] Value.none Value.none Value.none Value.none none Value.none Value.none 0)) #[]
@[reducible] noncomputable def o_275 (P : Params) : Obj := Obj.mk (Value.type "code") none (Data.fields #[Value.str (Str.ofString "put_word") 570, Value.str (Str.ofString "Memory.put_word") 571, Value.str (Str.ofString "/claim/cut.py") 572, Value.int 145 0, Value.int 3 0, Value.int 0 0, Value.int 0 0, Value.int 3 0, Value.ref 278, Value.bool true, Value.int 181 0, Value.ref 279, Value.none, Value.ref 280, Value.ref 281, Value.ref 282, Value.int 576 0, Value.int 145 0, Value.str (Str.ofString "/claim/cut.py") 577]) #[]
@[reducible] noncomputable def o_276 (P : Params) : Obj := withDef (s := fnAt 20 3) rfl fun A B S => Obj.mk (Value.type "function") none (Data.func (FuncData.mk (Str.ofString "put_word") (Str.ofString "Memory.put_word") A (FuncBody.stmts B) S 3 [] Value.none Value.none Value.none (Value.str (Str.ofString "moduleyard.memory") 530) none (Value.ref 283) Value.none 0)) #[]
@[reducible] noncomputable def o_277 (P : Params) : Obj := Obj.mk (Value.type "tuple") none (Data.seq #[]) #[]
@[reducible] noncomputable def o_278 (P : Params) : Obj := Obj.mk Value.none none (Data.fields #[]) #[]
@[reducible] noncomputable def o_279 (P : Params) : Obj := Obj.mk (Value.type "tuple") none (Data.seq #[Value.str (Str.ofString "self") 582, Value.str (Str.ofString "address") 583]) #[]
@[reducible] noncomputable def o_280 (P : Params) : Obj := Obj.mk (Value.type "tuple") none (Data.seq #[]) #[]
@[reducible] noncomputable def o_281 (P : Params) : Obj := withDef (s := fnAt 20 4) rfl fun A B S => Obj.mk Value.none none (Data.func (FuncData.mk (Str.ofString "byte") (Str.ofString "Memory.byte") A (FuncBody.stmts B) S 0 [] Value.none Value.none Value.none Value.none none Value.none Value.none 0)) #[]
@[reducible] noncomputable def o_282 (P : Params) : Obj := Obj.mk (Value.type "code") none (Data.fields #[Value.str (Str.ofString "byte") 579, Value.str (Str.ofString "Memory.byte") 580, Value.str (Str.ofString "/claim/cut.py") 581, Value.int 148 0, Value.int 2 0, Value.int 0 0, Value.int 0 0, Value.int 3 0, Value.ref 285, Value.bool true, Value.int 181 0, Value.ref 286, Value.none, Value.ref 287, Value.ref 288, Value.ref 289, Value.int 584 0, Value.int 148 0, Value.str (Str.ofString "/claim/cut.py") 585]) #[]
@[reducible] noncomputable def o_283 (P : Params) : Obj := withDef (s := fnAt 20 4) rfl fun A B S => Obj.mk (Value.type "function") none (Data.func (FuncData.mk (Str.ofString "byte") (Str.ofString "Memory.byte") A (FuncBody.stmts B) S 3 [] Value.none Value.none Value.none (Value.str (Str.ofString "moduleyard.memory") 530) none (Value.ref 290) Value.none 0)) #[]
@[reducible] noncomputable def o_284 (P : Params) : Obj := Obj.mk (Value.type "tuple") none (Data.seq #[]) #[]
@[reducible] noncomputable def o_285 (P : Params) : Obj := Obj.mk Value.none none (Data.fields #[]) #[]
@[reducible] noncomputable def o_286 (P : Params) : Obj := Obj.mk (Value.type "tuple") none (Data.seq #[Value.str (Str.ofString "self") 590, Value.str (Str.ofString "address") 591, Value.str (Str.ofString "value") 592]) #[]
@[reducible] noncomputable def o_287 (P : Params) : Obj := Obj.mk (Value.type "tuple") none (Data.seq #[]) #[]
@[reducible] noncomputable def o_288 (P : Params) : Obj := withDef (s := fnAt 20 5) rfl fun A B S => Obj.mk Value.none none (Data.func (FuncData.mk (Str.ofString "put_byte") (Str.ofString "Memory.put_byte") A (FuncBody.stmts B) S 0 [] Value.none Value.none Value.none Value.none none Value.none Value.none 0)) #[]
@[reducible] noncomputable def o_289 (P : Params) : Obj := Obj.mk (Value.type "code") none (Data.fields #[Value.str (Str.ofString "put_byte") 587, Value.str (Str.ofString "Memory.put_byte") 588, Value.str (Str.ofString "/claim/cut.py") 589, Value.int 151 0, Value.int 3 0, Value.int 0 0, Value.int 0 0, Value.int 3 0, Value.ref 292, Value.bool true, Value.int 181 0, Value.ref 293, Value.none, Value.ref 294, Value.ref 295, Value.ref 296, Value.int 593 0, Value.int 151 0, Value.str (Str.ofString "/claim/cut.py") 594]) #[]
@[reducible] noncomputable def o_290 (P : Params) : Obj := withDef (s := fnAt 20 5) rfl fun A B S => Obj.mk (Value.type "function") none (Data.func (FuncData.mk (Str.ofString "put_byte") (Str.ofString "Memory.put_byte") A (FuncBody.stmts B) S 3 [] Value.none Value.none Value.none (Value.str (Str.ofString "moduleyard.memory") 530) none (Value.ref 297) Value.none 0)) #[]
@[reducible] noncomputable def o_291 (P : Params) : Obj := Obj.mk (Value.type "tuple") none (Data.seq #[Value.str (Str.ofString "size") 596, Value.str (Str.ofString "words") 597]) #[]
@[reducible] noncomputable def o_292 (P : Params) : Obj := Obj.mk (Value.type "dict") none (Data.dict #[DictEntry.mk (PyData.keyHash P (Str.ofString "__module__")) (Value.str (Str.ofString "__module__") 541) (Value.str (Str.ofString "moduleyard.memory") 530), DictEntry.mk (PyData.keyHash P (Str.ofString "__firstlineno__")) (Value.str (Str.ofString "__firstlineno__") 545) (Value.int 131 544), DictEntry.mk (PyData.keyHash P (Str.ofString "__init__")) (Value.str (Str.ofString "__init__") 553) (Value.ref 263), DictEntry.mk (PyData.keyHash P (Str.ofString "place")) (Value.str (Str.ofString "place") 561) (Value.ref 270), DictEntry.mk (PyData.keyHash P (Str.ofString "word")) (Value.str (Str.ofString "word") 569) (Value.ref 277), DictEntry.mk (PyData.keyHash P (Str.ofString "put_word")) (Value.str (Str.ofString "put_word") 578) (Value.ref 284), DictEntry.mk (PyData.keyHash P (Str.ofString "byte")) (Value.str (Str.ofString "byte") 586) (Value.ref 291), DictEntry.mk (PyData.keyHash P (Str.ofString "put_byte")) (Value.str (Str.ofString "put_byte") 595) (Value.ref 298), DictEntry.mk (PyData.keyHash P (Str.ofString "__static_attributes__")) (Value.str (Str.ofString "__static_attributes__") 598) (Value.ref 299), DictEntry.mk (PyData.keyHash P (Str.ofString "__dict__")) (Value.str (Str.ofString "__dict__") 600) (Value.ref 302), DictEntry.mk (PyData.keyHash P (Str.ofString "__weakref__")) (Value.str (Str.ofString "__weakref__") 602) (Value.ref 303), DictEntry.mk (PyData.keyHash P (Str.ofString "__doc__")) (Value.str (Str.ofString "__doc__") 603) Value.none] 4) #[]
@[reducible] noncomputable def o_293 (P : Params) : Obj := Obj.mk (Value.type "type") none (Data.cls (ClassData.mk (Str.ofString "Memory") [Value.type "object"] [Value.ref 301, Value.type "object"] 300 (Str.ofString "Memory") true [] [] false none false)) #[none, none, some (Value.str (Str.ofString "Memory") 534), some (Value.str (Str.ofString "Memory") 542), some (Value.builtin "object.__new__"), some (Value.bool true)]
@[reducible] noncomputable def o_294 (P : Params) : Obj := Obj.mk (Value.type "getset_descriptor") none (Data.fields #[Value.str (Str.ofString "__dict__") 599, Value.ref 301, Value.builtin "function.__dict__", Value.builtin "function.__dict__#set"]) #[]
@[reducible] noncomputable def o_295 (P : Params) : Obj := Obj.mk (Value.type "getset_descriptor") none (Data.fields #[Value.str (Str.ofString "__weakref__") 601, Value.ref 301, Value.builtin "ExceptionGroup.__weakref__", Value.none]) #[]
@[reducible] noncomputable def o_296 (P : Params) : Obj := Obj.mk (Value.type "super") none (Data.fields #[Value.ref 301, Value.ref 301, Value.ref 301]) #[]
@[reducible] noncomputable def o_297 (P : Params) : Obj := Obj.mk (Value.type "builtin_function_or_method") none (Data.fields #[Value.builtin "object.__init_subclass__", Value.ref 301]) #[]
@[reducible] noncomputable def o_298 (P : Params) : Obj := Obj.mk (Value.type "tuple") none (Data.seq #[]) #[]
@[reducible] noncomputable def o_299 (P : Params) : Obj := Obj.mk Value.none none (Data.fields #[]) #[]
@[reducible] noncomputable def o_300 (P : Params) : Obj := Obj.mk (Value.type "tuple") none (Data.seq #[Value.str (Str.ofString "size") 617]) #[]
@[reducible] noncomputable def o_301 (P : Params) : Obj := Obj.mk (Value.type "tuple") none (Data.seq #[]) #[]
@[reducible] noncomputable def o_302 (P : Params) : Obj := withDef (s := fnAt 25 0) rfl fun A B S => Obj.mk Value.none none (Data.func (FuncData.mk (Str.ofString "rounded") (Str.ofString "rounded") A (FuncBody.stmts B) S 0 [] Value.none Value.none Value.none Value.none none Value.none Value.none 0)) #[]
@[reducible] noncomputable def o_303 (P : Params) : Obj := Obj.mk (Value.type "code") none (Data.fields #[Value.str (Str.ofString "rounded") 614, Value.str (Str.ofString "rounded") 615, Value.str (Str.ofString "/claim/cut.py") 616, Value.int 157 0, Value.int 1 0, Value.int 0 0, Value.int 0 0, Value.int 3 0, Value.ref 306, Value.bool true, Value.int 181 0, Value.ref 307, Value.none, Value.ref 308, Value.ref 309, Value.ref 310, Value.int 618 0, Value.int 157 0, Value.str (Str.ofString "/claim/cut.py") 619]) #[]
@[reducible] noncomputable def o_304 (P : Params) : Obj := withDef (s := fnAt 25 0) rfl fun A B S => Obj.mk (Value.type "function") none (Data.func (FuncData.mk (Str.ofString "rounded") (Str.ofString "rounded") A (FuncBody.stmts B) S 3 [] Value.none Value.none Value.none (Value.str (Str.ofString "moduleyard.machine") 606) none (Value.ref 311) Value.none 0)) #[]
@[reducible] noncomputable def o_305 (P : Params) : Obj := Obj.mk (Value.type "tuple") none (Data.seq #[]) #[]
@[reducible] noncomputable def o_306 (P : Params) : Obj := Obj.mk (Value.type "builtin_function_or_method") none (Data.fields #[Value.builtin "type.__prepare__", Value.type "type"]) #[]
@[reducible] noncomputable def o_307 (P : Params) : Obj := Obj.mk (Value.type "dict") none (Data.dict #[DictEntry.mk (PyData.keyHash P (Str.ofString "__module__")) (Value.str (Str.ofString "__module__") 628) (Value.str (Str.ofString "moduleyard.machine") 606), DictEntry.mk (PyData.keyHash P (Str.ofString "__qualname__")) (Value.str (Str.ofString "__qualname__") 630) (Value.str (Str.ofString "Machine") 629), DictEntry.mk (PyData.keyHash P (Str.ofString "__firstlineno__")) (Value.str (Str.ofString "__firstlineno__") 632) (Value.int 159 631), DictEntry.mk (PyData.keyHash P (Str.ofString "__init__")) (Value.str (Str.ofString "__init__") 648) (Value.ref 327), DictEntry.mk (PyData.keyHash P (Str.ofString "add_rows")) (Value.str (Str.ofString "add_rows") 658) (Value.ref 334), DictEntry.mk (PyData.keyHash P (Str.ofString "add_data")) (Value.str (Str.ofString "add_data") 667) (Value.ref 341), DictEntry.mk (PyData.keyHash P (Str.ofString "state")) (Value.str (Str.ofString "state") 674) (Value.ref 348), DictEntry.mk (PyData.keyHash P (Str.ofString "back_to")) (Value.str (Str.ofString "back_to") 682) (Value.ref 355), DictEntry.mk (PyData.keyHash P (Str.ofString "most_frames")) (Value.str (Str.ofString "most_frames") 689) (Value.ref 362), DictEntry.mk (PyData.keyHash P (Str.ofString "prepare")) (Value.str (Str.ofString "prepare") 697) (Value.ref 369), DictEntry.mk (PyData.keyHash P (Str.ofString "call")) (Value.str (Str.ofString "call") 705) (Value.ref 376), DictEntry.mk (PyData.keyHash P (Str.ofString "running_module")) (Value.str (Str.ofString "running_module") 712) (Value.ref 383), DictEntry.mk (PyData.keyHash P (Str.ofString "kernel")) (Value.str (Str.ofString "kernel") 720) (Value.ref 390), DictEntry.mk (PyData.keyHash P (Str.ofString "__static_attributes__")) (Value.str (Str.ofString "__static_attributes__") 732) (Value.ref 391)] 14) #[]
@[reducible] noncomputable def o_308 (P : Params) : Obj := Obj.mk (Value.type "tuple") none (Data.seq #[]) #[]
@[reducible] noncomputable def o_309 (P : Params) : Obj := Obj.mk Value.none none (Data.fields #[Value.int 161 0, Value.int 4 0, Value.ref 326, Value.int 176 0, Value.int 4 0, Value.ref 333, Value.int 182 0, Value.int 4 0, Value.ref 340, Value.int 189 0, Value.int 4 0, Value.ref 347, Value.int 192 0, Value.int 4 0, Value.ref 354, Value.int 195 0, Value.int 4 0, Value.ref 361, Value.int 198 0, Value.int 4 0, Value.ref 368, Value.int 201 0, Value.int 4 0, Value.ref 375, Value.int 204 0, Value.int 4 0, Value.ref 382, Value.int 207 0, Value.int 4 0, Value.ref 389]) #[]
@[reducible] noncomputable def o_310 (P : Params) : Obj := Obj.mk (Value.type "code") none (Data.fields #[Value.str (Str.ofString "Machine") 623, Value.str (Str.ofString "Machine") 624, Value.str (Str.ofString "/claim/cut.py") 625, Value.int 159 0, Value.int 0 0, Value.int 0 0, Value.int 0 0, Value.int 0 0, Value.ref 316, Value.bool false, Value.int 181 0, Value.ref 317, Value.none, Value.none, Value.none, Value.none, Value.int 626 0, Value.int 159 0, Value.str (Str.ofString "/claim/cut.py") 627]) #[]
@[reducible] noncomputable def o_311 (P : Params) : Obj := Obj.mk (Value.type "frame") none Data.plain #[some (Value.ref 318), some (Value.ref 3), some (Value.ref 315), none, some (Value.str (Str.ofString "moduleyard.machine") 606), none, some (Value.ref 0)]
@[reducible] noncomputable def o_312 (P : Params) : Obj := Obj.mk (Value.type "tuple") none (Data.seq #[Value.int 4096 633, Value.int 4096 634, Value.int 60000 635, Value.int 4096 636]) #[]
@[reducible] noncomputable def o_313 (P : Params) : Obj := Obj.mk (Value.type "tuple") none (Data.seq #[]) #[]
@[reducible] noncomputable def o_314 (P : Params) : Obj := Obj.mk Value.none none (Data.fields #[]) #[]
@[reducible] noncomputable def o_315 (P : Params) : Obj := Obj.mk (Value.type "tuple") none (Data.seq #[Value.str (Str.ofString "self") 640, Value.str (Str.ofString "heap_bytes") 641, Value.str (Str.ofString "stack_bytes") 642, Value.str (Str.ofString "limit") 643, Value.str (Str.ofString "data_bytes") 644, Value.str (Str.ofString "heap_limit") 645]) #[]
@[reducible] noncomputable def o_316 (P : Params) : Obj := Obj.mk (Value.type "tuple") none (Data.seq #[]) #[]
@[reducible] noncomputable def o_317 (P : Params) : Obj := withDef (s := fnAt 26 0) rfl fun A B S => Obj.mk Value.none none (Data.func (FuncData.mk (Str.ofString "__init__") (Str.ofString "Machine.__init__") A (FuncBody.stmts B) S 0 [] Value.none Value.none Value.none Value.none none Value.none Value.none 0)) #[]
@[reducible] noncomputable def o_318 (P : Params) : Obj := Obj.mk (Value.type "code") none (Data.fields #[Value.str (Str.ofString "__init__") 637, Value.str (Str.ofString "Machine.__init__") 638, Value.str (Str.ofString "/claim/cut.py") 639, Value.int 161 0, Value.int 5 0, Value.int 0 0, Value.int 0 0, Value.int 3 0, Value.ref 321, Value.bool true, Value.int 181 0, Value.ref 322, Value.none, Value.ref 323, Value.ref 324, Value.ref 325, Value.int 646 0, Value.int 161 0, Value.str (Str.ofString "/claim/cut.py") 647]) #[]
@[reducible] noncomputable def o_319 (P : Params) : Obj := withDef (s := fnAt 26 0) rfl fun A B S => Obj.mk (Value.type "function") none (Data.func (FuncData.mk (Str.ofString "__init__") (Str.ofString "Machine.__init__") A (FuncBody.stmts B) S 3 [] (Value.ref 320) Value.none Value.none (Value.str (Str.ofString "moduleyard.machine") 606) none (Value.ref 326) Value.none 0)) #[]
@[reducible] noncomputable def o_320 (P : Params) : Obj := Obj.mk (Value.type "tuple") none (Data.seq #[]) #[]
@[reducible] noncomputable def o_321 (P : Params) : Obj := Obj.mk Value.none none (Data.fields #[]) #[]
@[reducible] noncomputable def o_322 (P : Params) : Obj := Obj.mk (Value.type "tuple") none (Data.seq #[Value.str (Str.ofString "self") 652, Value.str (Str.ofString "rows") 653, Value.str (Str.ofString "base") 654, Value.str (Str.ofString "row") 655]) #[]
@[reducible] noncomputable def o_323 (P : Params) : Obj := Obj.mk (Value.type "tuple") none (Data.seq #[]) #[]
@[reducible] noncomputable def o_324 (P : Params) : Obj := withDef (s := fnAt 26 1) rfl fun A B S => Obj.mk Value.none none (Data.func (FuncData.mk (Str.ofString "add_rows") (Str.ofString "Machine.add_rows") A (FuncBody.stmts B) S 0 [] Value.none Value.none Value.none Value.none none Value.none Value.none 0)) #[]
@[reducible] noncomputable def o_325 (P : Params) : Obj := Obj.mk (Value.type "code") none (Data.fields #[Value.str (Str.ofString "add_rows") 649, Value.str (Str.ofString "Machine.add_rows") 650, Value.str (Str.ofString "/claim/cut.py") 651, Value.int 176 0, Value.int 2 0, Value.int 0 0, Value.int 0 0, Value.int 3 0, Value.ref 328, Value.bool true, Value.int 181 0, Value.ref 329, Value.none, Value.ref 330, Value.ref 331, Value.ref 332, Value.int 656 0, Value.int 176 0, Value.str (Str.ofString "/claim/cut.py") 657]) #[]
@[reducible] noncomputable def o_326 (P : Params) : Obj := withDef (s := fnAt 26 1) rfl fun A B S => Obj.mk (Value.type "function") none (Data.func (FuncData.mk (Str.ofString "add_rows") (Str.ofString "Machine.add_rows") A (FuncBody.stmts B) S 3 [] Value.none Value.none Value.none (Value.str (Str.ofString "moduleyard.machine") 606) none (Value.ref 333) Value.none 0)) #[]
@[reducible] noncomputable def o_327 (P : Params) : Obj := Obj.mk (Value.type "tuple") none (Data.seq #[]) #[]
@[reducible] noncomputable def o_328 (P : Params) : Obj := Obj.mk Value.none none (Data.fields #[]) #[]
@[reducible] noncomputable def o_329 (P : Params) : Obj := Obj.mk (Value.type "tuple") none (Data.seq #[Value.str (Str.ofString "self") 662, Value.str (Str.ofString "size") 663, Value.str (Str.ofString "address") 664]) #[]
@[reducible] noncomputable def o_330 (P : Params) : Obj := Obj.mk (Value.type "tuple") none (Data.seq #[]) #[]
@[reducible] noncomputable def o_331 (P : Params) : Obj := withDef (s := fnAt 26 2) rfl fun A B S => Obj.mk Value.none none (Data.func (FuncData.mk (Str.ofString "add_data") (Str.ofString "Machine.add_data") A (FuncBody.stmts B) S 0 [] Value.none Value.none Value.none Value.none none Value.none Value.none 0)) #[]
@[reducible] noncomputable def o_332 (P : Params) : Obj := Obj.mk (Value.type "code") none (Data.fields #[Value.str (Str.ofString "add_data") 659, Value.str (Str.ofString "Machine.add_data") 660, Value.str (Str.ofString "/claim/cut.py") 661, Value.int 182 0, Value.int 2 0, Value.int 0 0, Value.int 0 0, Value.int 3 0, Value.ref 335, Value.bool true, Value.int 181 0, Value.ref 336, Value.none, Value.ref 337, Value.ref 338, Value.ref 339, Value.int 665 0, Value.int 182 0, Value.str (Str.ofString "/claim/cut.py") 666]) #[]
@[reducible] noncomputable def o_333 (P : Params) : Obj := withDef (s := fnAt 26 2) rfl fun A B S => Obj.mk (Value.type "function") none (Data.func (FuncData.mk (Str.ofString "add_data") (Str.ofString "Machine.add_data") A (FuncBody.stmts B) S 3 [] Value.none Value.none Value.none (Value.str (Str.ofString "moduleyard.machine") 606) none (Value.ref 340) Value.none 0)) #[]
@[reducible] noncomputable def o_334 (P : Params) : Obj := Obj.mk (Value.type "tuple") none (Data.seq #[]) #[]
@[reducible] noncomputable def o_335 (P : Params) : Obj := Obj.mk Value.none none (Data.fields #[]) #[]
@[reducible] noncomputable def o_336 (P : Params) : Obj := Obj.mk (Value.type "tuple") none (Data.seq #[Value.str (Str.ofString "self") 671]) #[]
@[reducible] noncomputable def o_337 (P : Params) : Obj := Obj.mk (Value.type "tuple") none (Data.seq #[]) #[]
@[reducible] noncomputable def o_338 (P : Params) : Obj := withDef (s := fnAt 26 3) rfl fun A B S => Obj.mk Value.none none (Data.func (FuncData.mk (Str.ofString "state") (Str.ofString "Machine.state") A (FuncBody.stmts B) S 0 [] Value.none Value.none Value.none Value.none none Value.none Value.none 0)) #[]
@[reducible] noncomputable def o_339 (P : Params) : Obj := Obj.mk (Value.type "code") none (Data.fields #[Value.str (Str.ofString "state") 668, Value.str (Str.ofString "Machine.state") 669, Value.str (Str.ofString "/claim/cut.py") 670, Value.int 189 0, Value.int 1 0, Value.int 0 0, Value.int 0 0, Value.int 3 0, Value.ref 342, Value.bool true, Value.int 181 0, Value.ref 343, Value.none, Value.ref 344, Value.ref 345, Value.ref 346, Value.int 672 0, Value.int 189 0, Value.str (Str.ofString "/claim/cut.py") 673]) #[]
@[reducible] noncomputable def o_340 (P : Params) : Obj := withDef (s := fnAt 26 3) rfl fun A B S => Obj.mk (Value.type "function") none (Data.func (FuncData.mk (Str.ofString "state") (Str.ofString "Machine.state") A (FuncBody.stmts B) S 3 [] Value.none Value.none Value.none (Value.str (Str.ofString "moduleyard.machine") 606) none (Value.ref 347) Value.none 0)) #[]
@[reducible] noncomputable def o_341 (P : Params) : Obj := Obj.mk (Value.type "tuple") none (Data.seq #[]) #[]
@[reducible] noncomputable def o_342 (P : Params) : Obj := Obj.mk Value.none none (Data.fields #[]) #[]
@[reducible] noncomputable def o_343 (P : Params) : Obj := Obj.mk (Value.type "tuple") none (Data.seq #[Value.str (Str.ofString "self") 678, Value.str (Str.ofString "state") 679]) #[]
@[reducible] noncomputable def o_344 (P : Params) : Obj := Obj.mk (Value.type "tuple") none (Data.seq #[]) #[]
@[reducible] noncomputable def o_345 (P : Params) : Obj := withDef (s := fnAt 26 4) rfl fun A B S => Obj.mk Value.none none (Data.func (FuncData.mk (Str.ofString "back_to") (Str.ofString "Machine.back_to") A (FuncBody.stmts B) S 0 [] Value.none Value.none Value.none Value.none none Value.none Value.none 0)) #[]
@[reducible] noncomputable def o_346 (P : Params) : Obj := Obj.mk (Value.type "code") none (Data.fields #[Value.str (Str.ofString "back_to") 675, Value.str (Str.ofString "Machine.back_to") 676, Value.str (Str.ofString "/claim/cut.py") 677, Value.int 192 0, Value.int 2 0, Value.int 0 0, Value.int 0 0, Value.int 3 0, Value.ref 349, Value.bool true, Value.int 181 0, Value.ref 350, Value.none, Value.ref 351, Value.ref 352, Value.ref 353, Value.int 680 0, Value.int 192 0, Value.str (Str.ofString "/claim/cut.py") 681]) #[]
@[reducible] noncomputable def o_347 (P : Params) : Obj := withDef (s := fnAt 26 4) rfl fun A B S => Obj.mk (Value.type "function") none (Data.func (FuncData.mk (Str.ofString "back_to") (Str.ofString "Machine.back_to") A (FuncBody.stmts B) S 3 [] Value.none Value.none Value.none (Value.str (Str.ofString "moduleyard.machine") 606) none (Value.ref 354) Value.none 0)) #[]
@[reducible] noncomputable def o_348 (P : Params) : Obj := Obj.mk (Value.type "tuple") none (Data.seq #[]) #[]
@[reducible] noncomputable def o_349 (P : Params) : Obj := Obj.mk Value.none none (Data.fields #[]) #[]
@[reducible] noncomputable def o_350 (P : Params) : Obj := Obj.mk (Value.type "tuple") none (Data.seq #[Value.str (Str.ofString "self") 686]) #[]
@[reducible] noncomputable def o_351 (P : Params) : Obj := Obj.mk (Value.type "tuple") none (Data.seq #[]) #[]
@[reducible] noncomputable def o_352 (P : Params) : Obj := withDef (s := fnAt 26 5) rfl fun A B S => Obj.mk Value.none none (Data.func (FuncData.mk (Str.ofString "most_frames") (Str.ofString "Machine.most_frames") A (FuncBody.stmts B) S 0 [] Value.none Value.none Value.none Value.none none Value.none Value.none 0)) #[]
@[reducible] noncomputable def o_353 (P : Params) : Obj := Obj.mk (Value.type "code") none (Data.fields #[Value.str (Str.ofString "most_frames") 683, Value.str (Str.ofString "Machine.most_frames") 684, Value.str (Str.ofString "/claim/cut.py") 685, Value.int 195 0, Value.int 1 0, Value.int 0 0, Value.int 0 0, Value.int 3 0, Value.ref 356, Value.bool true, Value.int 181 0, Value.ref 357, Value.none, Value.ref 358, Value.ref 359, Value.ref 360, Value.int 687 0, Value.int 195 0, Value.str (Str.ofString "/claim/cut.py") 688]) #[]
@[reducible] noncomputable def o_354 (P : Params) : Obj := withDef (s := fnAt 26 5) rfl fun A B S => Obj.mk (Value.type "function") none (Data.func (FuncData.mk (Str.ofString "most_frames") (Str.ofString "Machine.most_frames") A (FuncBody.stmts B) S 3 [] Value.none Value.none Value.none (Value.str (Str.ofString "moduleyard.machine") 606) none (Value.ref 361) Value.none 0)) #[]
@[reducible] noncomputable def o_355 (P : Params) : Obj := Obj.mk (Value.type "tuple") none (Data.seq #[]) #[]
@[reducible] noncomputable def o_356 (P : Params) : Obj := Obj.mk Value.none none (Data.fields #[]) #[]
@[reducible] noncomputable def o_357 (P : Params) : Obj := Obj.mk (Value.type "tuple") none (Data.seq #[Value.str (Str.ofString "self") 693, Value.str (Str.ofString "row") 694]) #[]
@[reducible] noncomputable def o_358 (P : Params) : Obj := Obj.mk (Value.type "tuple") none (Data.seq #[]) #[]
@[reducible] noncomputable def o_359 (P : Params) : Obj := withDef (s := fnAt 26 6) rfl fun A B S => Obj.mk Value.none none (Data.func (FuncData.mk (Str.ofString "prepare") (Str.ofString "Machine.prepare") A (FuncBody.stmts B) S 0 [] Value.none Value.none Value.none Value.none none Value.none Value.none 0)) #[]
@[reducible] noncomputable def o_360 (P : Params) : Obj := Obj.mk (Value.type "code") none (Data.fields #[Value.str (Str.ofString "prepare") 690, Value.str (Str.ofString "Machine.prepare") 691, Value.str (Str.ofString "/claim/cut.py") 692, Value.int 198 0, Value.int 2 0, Value.int 0 0, Value.int 0 0, Value.int 3 0, Value.ref 363, Value.bool true, Value.int 181 0, Value.ref 364, Value.none, Value.ref 365, Value.ref 366, Value.ref 367, Value.int 695 0, Value.int 198 0, Value.str (Str.ofString "/claim/cut.py") 696]) #[]
@[reducible] noncomputable def o_361 (P : Params) : Obj := withDef (s := fnAt 26 6) rfl fun A B S => Obj.mk (Value.type "function") none (Data.func (FuncData.mk (Str.ofString "prepare") (Str.ofString "Machine.prepare") A (FuncBody.stmts B) S 3 [] Value.none Value.none Value.none (Value.str (Str.ofString "moduleyard.machine") 606) none (Value.ref 368) Value.none 0)) #[]
@[reducible] noncomputable def o_362 (P : Params) : Obj := Obj.mk (Value.type "tuple") none (Data.seq #[]) #[]
@[reducible] noncomputable def o_363 (P : Params) : Obj := Obj.mk Value.none none (Data.fields #[]) #[]
@[reducible] noncomputable def o_364 (P : Params) : Obj := Obj.mk (Value.type "tuple") none (Data.seq #[Value.str (Str.ofString "self") 701, Value.str (Str.ofString "row") 702]) #[]
@[reducible] noncomputable def o_365 (P : Params) : Obj := Obj.mk (Value.type "tuple") none (Data.seq #[]) #[]
@[reducible] noncomputable def o_366 (P : Params) : Obj := withDef (s := fnAt 26 7) rfl fun A B S => Obj.mk Value.none none (Data.func (FuncData.mk (Str.ofString "call") (Str.ofString "Machine.call") A (FuncBody.stmts B) S 0 [] Value.none Value.none Value.none Value.none none Value.none Value.none 0)) #[]
@[reducible] noncomputable def o_367 (P : Params) : Obj := Obj.mk (Value.type "code") none (Data.fields #[Value.str (Str.ofString "call") 698, Value.str (Str.ofString "Machine.call") 699, Value.str (Str.ofString "/claim/cut.py") 700, Value.int 201 0, Value.int 2 0, Value.int 0 0, Value.int 0 0, Value.int 3 0, Value.ref 370, Value.bool true, Value.int 181 0, Value.ref 371, Value.none, Value.ref 372, Value.ref 373, Value.ref 374, Value.int 703 0, Value.int 201 0, Value.str (Str.ofString "/claim/cut.py") 704]) #[]
@[reducible] noncomputable def o_368 (P : Params) : Obj := withDef (s := fnAt 26 7) rfl fun A B S => Obj.mk (Value.type "function") none (Data.func (FuncData.mk (Str.ofString "call") (Str.ofString "Machine.call") A (FuncBody.stmts B) S 3 [] Value.none Value.none Value.none (Value.str (Str.ofString "moduleyard.machine") 606) none (Value.ref 375) Value.none 0)) #[]
@[reducible] noncomputable def o_369 (P : Params) : Obj := Obj.mk (Value.type "tuple") none (Data.seq #[]) #[]
@[reducible] noncomputable def o_370 (P : Params) : Obj := Obj.mk Value.none none (Data.fields #[]) #[]
@[reducible] noncomputable def o_371 (P : Params) : Obj := Obj.mk (Value.type "tuple") none (Data.seq #[Value.str (Str.ofString "self") 709]) #[]
@[reducible] noncomputable def o_372 (P : Params) : Obj := Obj.mk (Value.type "tuple") none (Data.seq #[]) #[]
@[reducible] noncomputable def o_373 (P : Params) : Obj := withDef (s := fnAt 26 8) rfl fun A B S => Obj.mk Value.none none (Data.func (FuncData.mk (Str.ofString "running_module") (Str.ofString "Machine.running_module") A (FuncBody.stmts B) S 0 [] Value.none Value.none Value.none Value.none none Value.none Value.none 0)) #[]
@[reducible] noncomputable def o_374 (P : Params) : Obj := Obj.mk (Value.type "code") none (Data.fields #[Value.str (Str.ofString "running_module") 706, Value.str (Str.ofString "Machine.running_module") 707, Value.str (Str.ofString "/claim/cut.py") 708, Value.int 204 0, Value.int 1 0, Value.int 0 0, Value.int 0 0, Value.int 3 0, Value.ref 377, Value.bool true, Value.int 181 0, Value.ref 378, Value.none, Value.ref 379, Value.ref 380, Value.ref 381, Value.int 710 0, Value.int 204 0, Value.str (Str.ofString "/claim/cut.py") 711]) #[]
@[reducible] noncomputable def o_375 (P : Params) : Obj := withDef (s := fnAt 26 8) rfl fun A B S => Obj.mk (Value.type "function") none (Data.func (FuncData.mk (Str.ofString "running_module") (Str.ofString "Machine.running_module") A (FuncBody.stmts B) S 3 [] Value.none Value.none Value.none (Value.str (Str.ofString "moduleyard.machine") 606) none (Value.ref 382) Value.none 0)) #[]
@[reducible] noncomputable def o_376 (P : Params) : Obj := Obj.mk (Value.type "tuple") none (Data.seq #[]) #[]
@[reducible] noncomputable def o_377 (P : Params) : Obj := Obj.mk Value.none none (Data.fields #[]) #[]
@[reducible] noncomputable def o_378 (P : Params) : Obj := Obj.mk (Value.type "tuple") none (Data.seq #[Value.str (Str.ofString "self") 716, Value.str (Str.ofString "number") 717]) #[]
@[reducible] noncomputable def o_379 (P : Params) : Obj := Obj.mk (Value.type "tuple") none (Data.seq #[]) #[]
@[reducible] noncomputable def o_380 (P : Params) : Obj := withDef (s := fnAt 26 9) rfl fun A B S => Obj.mk Value.none none (Data.func (FuncData.mk (Str.ofString "kernel") (Str.ofString "Machine.kernel") A (FuncBody.stmts B) S 0 [] Value.none Value.none Value.none Value.none none Value.none Value.none 0)) #[]
@[reducible] noncomputable def o_381 (P : Params) : Obj := Obj.mk (Value.type "code") none (Data.fields #[Value.str (Str.ofString "kernel") 713, Value.str (Str.ofString "Machine.kernel") 714, Value.str (Str.ofString "/claim/cut.py") 715, Value.int 207 0, Value.int 2 0, Value.int 0 0, Value.int 0 0, Value.int 3 0, Value.ref 384, Value.bool true, Value.int 181 0, Value.ref 385, Value.none, Value.ref 386, Value.ref 387, Value.ref 388, Value.int 718 0, Value.int 207 0, Value.str (Str.ofString "/claim/cut.py") 719]) #[]
@[reducible] noncomputable def o_382 (P : Params) : Obj := withDef (s := fnAt 26 9) rfl fun A B S => Obj.mk (Value.type "function") none (Data.func (FuncData.mk (Str.ofString "kernel") (Str.ofString "Machine.kernel") A (FuncBody.stmts B) S 3 [] Value.none Value.none Value.none (Value.str (Str.ofString "moduleyard.machine") 606) none (Value.ref 389) Value.none 0)) #[]
@[reducible] noncomputable def o_383 (P : Params) : Obj := Obj.mk (Value.type "tuple") none (Data.seq #[Value.str (Str.ofString "cpu") 721, Value.str (Str.ofString "data_limit") 722, Value.str (Str.ofString "data_top") 723, Value.str (Str.ofString "given") 724, Value.str (Str.ofString "heap") 725, Value.str (Str.ofString "limit") 726, Value.str (Str.ofString "loaded") 727, Value.str (Str.ofString "memory") 728, Value.str (Str.ofString "out") 729, Value.str (Str.ofString "stack_low") 730, Value.str (Str.ofString "steps") 731]) #[]
@[reducible] noncomputable def o_384 (P : Params) : Obj := Obj.mk (Value.type "dict") none (Data.dict #[DictEntry.mk (PyData.keyHash P (Str.ofString "__module__")) (Value.str (Str.ofString "__module__") 628) (Value.str (Str.ofString "moduleyard.machine") 606), DictEntry.mk (PyData.keyHash P (Str.ofString "__firstlineno__")) (Value.str (Str.ofString "__firstlineno__") 632) (Value.int 159 631), DictEntry.mk (PyData.keyHash P (Str.ofString "__init__")) (Value.str (Str.ofString "__init__") 648) (Value.ref 327), DictEntry.mk (PyData.keyHash P (Str.ofString "add_rows")) (Value.str (Str.ofString "add_rows") 658) (Value.ref 334), DictEntry.mk (PyData.keyHash P (Str.ofString "add_data")) (Value.str (Str.ofString "add_data") 667) (Value.ref 341), DictEntry.mk (PyData.keyHash P (Str.ofString "state")) (Value.str (Str.ofString "state") 674) (Value.ref 348), DictEntry.mk (PyData.keyHash P (Str.ofString "back_to")) (Value.str (Str.ofString "back_to") 682) (Value.ref 355), DictEntry.mk (PyData.keyHash P (Str.ofString "most_frames")) (Value.str (Str.ofString "most_frames") 689) (Value.ref 362), DictEntry.mk (PyData.keyHash P (Str.ofString "prepare")) (Value.str (Str.ofString "prepare") 697) (Value.ref 369), DictEntry.mk (PyData.keyHash P (Str.ofString "call")) (Value.str (Str.ofString "call") 705) (Value.ref 376), DictEntry.mk (PyData.keyHash P (Str.ofString "running_module")) (Value.str (Str.ofString "running_module") 712) (Value.ref 383), DictEntry.mk (PyData.keyHash P (Str.ofString "kernel")) (Value.str (Str.ofString "kernel") 720) (Value.ref 390), DictEntry.mk (PyData.keyHash P (Str.ofString "__static_attributes__")) (Value.str (Str.ofString "__static_attributes__") 732) (Value.ref 391), DictEntry.mk (PyData.keyHash P (Str.ofString "__dict__")) (Value.str (Str.ofString "__dict__") 734) (Value.ref 394), DictEntry.mk (PyData.keyHash P (Str.ofString "__weakref__")) (Value.str (Str.ofString "__weakref__") 736) (Value.ref 395), DictEntry.mk (PyData.keyHash P (Str.ofString "__doc__")) (Value.str (Str.ofString "__doc__") 737) Value.none] 4) #[]
@[reducible] noncomputable def o_385 (P : Params) : Obj := Obj.mk (Value.type "type") none (Data.cls (ClassData.mk (Str.ofString "Machine") [Value.type "object"] [Value.ref 393, Value.type "object"] 392 (Str.ofString "Machine") true [] [] false none false)) #[none, none, some (Value.str (Str.ofString "Machine") 621), some (Value.str (Str.ofString "Machine") 629), some (Value.builtin "object.__new__"), some (Value.bool true)]
@[reducible] noncomputable def o_386 (P : Params) : Obj := Obj.mk (Value.type "getset_descriptor") none (Data.fields #[Value.str (Str.ofString "__dict__") 733, Value.ref 393, Value.builtin "function.__dict__", Value.builtin "function.__dict__#set"]) #[]
@[reducible] noncomputable def o_387 (P : Params) : Obj := Obj.mk (Value.type "getset_descriptor") none (Data.fields #[Value.str (Str.ofString "__weakref__") 735, Value.ref 393, Value.builtin "ExceptionGroup.__weakref__", Value.none]) #[]
@[reducible] noncomputable def o_388 (P : Params) : Obj := Obj.mk (Value.type "super") none (Data.fields #[Value.ref 393, Value.ref 393, Value.ref 393]) #[]
@[reducible] noncomputable def o_389 (P : Params) : Obj := Obj.mk (Value.type "builtin_function_or_method") none (Data.fields #[Value.builtin "object.__init_subclass__", Value.ref 393]) #[]
@[reducible] noncomputable def o_390 (P : Params) : Obj := Obj.mk (Value.type "tuple") none (Data.seq #[]) #[]
@[reducible] noncomputable def o_391 (P : Params) : Obj := Obj.mk (Value.type "builtin_function_or_method") none (Data.fields #[Value.builtin "type.__prepare__", Value.type "type"]) #[]
@[reducible] noncomputable def o_392 (P : Params) : Obj := Obj.mk (Value.type "dict") none (Data.dict #[DictEntry.mk (PyData.keyHash P (Str.ofString "__module__")) (Value.str (Str.ofString "__module__") 749) (Value.str (Str.ofString "moduleyard.objfile") 740), DictEntry.mk (PyData.keyHash P (Str.ofString "__qualname__")) (Value.str (Str.ofString "__qualname__") 751) (Value.str (Str.ofString "ObjectFile") 750), DictEntry.mk (PyData.keyHash P (Str.ofString "__firstlineno__")) (Value.str (Str.ofString "__firstlineno__") 753) (Value.int 210 752), DictEntry.mk (PyData.keyHash P (Str.ofString "__init__")) (Value.str (Str.ofString "__init__") 762) (Value.ref 411), DictEntry.mk (PyData.keyHash P (Str.ofString "__static_attributes__")) (Value.str (Str.ofString "__static_attributes__") 776) (Value.ref 412)] 5) #[]
@[reducible] noncomputable def o_393 (P : Params) : Obj := Obj.mk (Value.type "tuple") none (Data.seq #[]) #[]
@[reducible] noncomputable def o_394 (P : Params) : Obj := Obj.mk Value.none none (Data.fields #[Value.int 212 0, Value.int 4 0, Value.ref 410]) #[]
@[reducible] noncomputable def o_395 (P : Params) : Obj := Obj.mk (Value.type "code") none (Data.fields #[Value.str (Str.ofString "ObjectFile") 744, Value.str (Str.ofString "ObjectFile") 745, Value.str (Str.ofString "/claim/cut.py") 746, Value.int 210 0, Value.int 0 0, Value.int 0 0, Value.int 0 0, Value.int 0 0, Value.ref 401, Value.bool false, Value.int 181 0, Value.ref 402, Value.none, Value.none, Value.none, Value.none, Value.int 747 0, Value.int 210 0, Value.str (Str.ofString "/claim/cut.py") 748]) #[]
@[reducible] noncomputable def o_396 (P : Params) : Obj := Obj.mk (Value.type "frame") none Data.plain #[some (Value.ref 403), some (Value.ref 3), some (Value.ref 400), none, some (Value.str (Str.ofString "moduleyard.objfile") 740), none, some (Value.ref 0)]
@[reducible] noncomputable def o_397 (P : Params) : Obj := Obj.mk (Value.type "tuple") none (Data.seq #[]) #[]
@[reducible] noncomputable def o_398 (P : Params) : Obj := Obj.mk Value.none none (Data.fields #[]) #[]
@[reducible] noncomputable def o_399 (P : Params) : Obj := Obj.mk (Value.type "tuple") none (Data.seq #[Value.str (Str.ofString "self") 757, Value.str (Str.ofString "name") 758, Value.str (Str.ofString "key") 759]) #[]
@[reducible] noncomputable def o_400 (P : Params) : Obj := Obj.mk (Value.type "tuple") none (Data.seq #[]) #[]
@[reducible] noncomputable def o_401 (P : Params) : Obj := withDef (s := fnAt 28 0) rfl fun A B S => Obj.mk Value.none none (Data.func (FuncData.mk (Str.ofString "__init__") (Str.ofString "ObjectFile.__init__") A (FuncBody.stmts B) S 0 [] Value.none Value.none Value.none Value.none none Value.none Value.none 0)) #[]
@[reducible] noncomputable def o_402 (P : Params) : Obj := Obj.mk (Value.type "code") none (Data.fields #[Value.str (Str.ofString "__init__") 754, Value.str (Str.ofString "ObjectFile.__init__") 755, Value.str (Str.ofString "/claim/cut.py") 756, Value.int 212 0, Value.int 3 0, Value.int 0 0, Value.int 0 0, Value.int 3 0, Value.ref 405, Value.bool true, Value.int 181 0, Value.ref 406, Value.none, Value.ref 407, Value.ref 408, Value.ref 409, Value.int 760 0, Value.int 212 0, Value.str (Str.ofString "/claim/cut.py") 761]) #[]
@[reducible] noncomputable def o_403 (P : Params) : Obj := withDef (s := fnAt 28 0) rfl fun A B S => Obj.mk (Value.type "function") none (Data.func (FuncData.mk (Str.ofString "__init__") (Str.ofString "ObjectFile.__init__") A (FuncBody.stmts B) S 3 [] Value.none Value.none Value.none (Value.str (Str.ofString "moduleyard.objfile") 740) none (Value.ref 410) Value.none 0)) #[]
@[reducible] noncomputable def o_404 (P : Params) : Obj := Obj.mk (Value.type "tuple") none (Data.seq #[Value.str (Str.ofString "body") 763, Value.str (Str.ofString "commands") 764, Value.str (Str.ofString "data_fixups") 765, Value.str (Str.ofString "data_size") 766, Value.str (Str.ofString "entries") 767, Value.str (Str.ofString "fixups") 768, Value.str (Str.ofString "imports") 769, Value.str (Str.ofString "key") 770, Value.str (Str.ofString "maps") 771, Value.str (Str.ofString "name") 772, Value.str (Str.ofString "pointers") 773, Value.str (Str.ofString "rows") 774, Value.str (Str.ofString "words") 775]) #[]
@[reducible] noncomputable def o_405 (P : Params) : Obj := Obj.mk (Value.type "dict") none (Data.dict #[DictEntry.mk (PyData.keyHash P (Str.ofString "__module__")) (Value.str (Str.ofString "__module__") 749) (Value.str (Str.ofString "moduleyard.objfile") 740), DictEntry.mk (PyData.keyHash P (Str.ofString "__firstlineno__")) (Value.str (Str.ofString "__firstlineno__") 753) (Value.int 210 752), DictEntry.mk (PyData.keyHash P (Str.ofString "__init__")) (Value.str (Str.ofString "__init__") 762) (Value.ref 411), DictEntry.mk (PyData.keyHash P (Str.ofString "__static_attributes__")) (Value.str (Str.ofString "__static_attributes__") 776) (Value.ref 412), DictEntry.mk (PyData.keyHash P (Str.ofString "__dict__")) (Value.str (Str.ofString "__dict__") 778) (Value.ref 415), DictEntry.mk (PyData.keyHash P (Str.ofString "__weakref__")) (Value.str (Str.ofString "__weakref__") 780) (Value.ref 416), DictEntry.mk (PyData.keyHash P (Str.ofString "__doc__")) (Value.str (Str.ofString "__doc__") 781) Value.none] 4) #[]
@[reducible] noncomputable def o_406 (P : Params) : Obj := Obj.mk (Value.type "type") none (Data.cls (ClassData.mk (Str.ofString "ObjectFile") [Value.type "object"] [Value.ref 414, Value.type "object"] 413 (Str.ofString "ObjectFile") true [] [] false none false)) #[none, none, some (Value.str (Str.ofString "ObjectFile") 742), some (Value.str (Str.ofString "ObjectFile") 750), some (Value.builtin "object.__new__"), some (Value.bool true)]
@[reducible] noncomputable def o_407 (P : Params) : Obj := Obj.mk (Value.type "getset_descriptor") none (Data.fields #[Value.str (Str.ofString "__dict__") 777, Value.ref 414, Value.builtin "function.__dict__", Value.builtin "function.__dict__#set"]) #[]
@[reducible] noncomputable def o_408 (P : Params) : Obj := Obj.mk (Value.type "getset_descriptor") none (Data.fields #[Value.str (Str.ofString "__weakref__") 779, Value.ref 414, Value.builtin "ExceptionGroup.__weakref__", Value.none]) #[]
@[reducible] noncomputable def o_409 (P : Params) : Obj := Obj.mk (Value.type "super") none (Data.fields #[Value.ref 414, Value.ref 414, Value.ref 414]) #[]
@[reducible] noncomputable def o_410 (P : Params) : Obj := Obj.mk (Value.type "builtin_function_or_method") none (Data.fields #[Value.builtin "object.__init_subclass__", Value.ref 414]) #[]
@[reducible] noncomputable def o_411 (P : Params) : Obj := Obj.mk (Value.type "tuple") none (Data.seq #[]) #[]
@[reducible] noncomputable def o_412 (P : Params) : Obj := Obj.mk Value.none none (Data.fields #[]) #[]
@[reducible] noncomputable def o_413 (P : Params) : Obj := Obj.mk (Value.type "tuple") none (Data.seq #[Value.str (Str.ofString "source") 789, Value.str (Str.ofString "most") 790, Value.str (Str.ofString "found") 791]) #[]
@[reducible] noncomputable def o_414 (P : Params) : Obj := Obj.mk (Value.type "tuple") none (Data.seq #[]) #[]
@[reducible] noncomputable def o_415 (P : Params) : Obj := withDef (s := fnAt 30 0) rfl fun A B S => Obj.mk Value.none none (Data.func (FuncData.mk (Str.ofString "_law_take") (Str.ofString "_law_take") A (FuncBody.stmts B) S 0 [] Value.none Value.none Value.none Value.none none Value.none Value.none 0)) #[]
@[reducible] noncomputable def o_416 (P : Params) : Obj := Obj.mk (Value.type "code") none (Data.fields #[Value.str (Str.ofString "_law_take") 786, Value.str (Str.ofString "_law_take") 787, Value.str (Str.ofString "/claim/cut.py") 788, Value.int 227 0, Value.int 2 0, Value.int 0 0, Value.int 0 0, Value.int 3 0, Value.ref 419, Value.bool true, Value.int 181 0, Value.ref 420, Value.none, Value.ref 421, Value.ref 422, Value.ref 423, Value.int 792 0, Value.int 227 0, Value.str (Str.ofString "/claim/cut.py") 793]) #[]
@[reducible] noncomputable def o_417 (P : Params) : Obj := withDef (s := fnAt 30 0) rfl fun A B S => Obj.mk (Value.type "function") none (Data.func (FuncData.mk (Str.ofString "_law_take") (Str.ofString "_law_take") A (FuncBody.stmts B) S 3 [] Value.none Value.none Value.none (Value.str (Str.ofString "law_pb0376_02") 784) none (Value.ref 424) Value.none 0)) #[]
@[reducible] noncomputable def o_418 (P : Params) : Obj := Obj.mk (Value.type "tuple") none (Data.seq #[]) #[]
@[reducible] noncomputable def o_419 (P : Params) : Obj := Obj.mk Value.none none (Data.fields #[]) #[]
@[reducible] noncomputable def o_420 (P : Params) : Obj := withDef (s := fnAt 31 0) rfl fun A B S => Obj.mk Value.none none (Data.func (FuncData.mk (Str.ofString "law") (Str.ofString "law") A (FuncBody.stmts B) S 0 [] Value.none Value.none Value.none Value.none none Value.none Value.none 0)) #[]
@[reducible] noncomputable def o_421 (P : Params) : Obj := Obj.mk (Value.type "code") none (Data.fields #[Value.str (Str.ofString "law") 795, Value.str (Str.ofString "law") 796, Value.str (Str.ofString "/claim/cut.py") 797, Value.int 235 0, Value.int 1 0, Value.int 0 0, Value.int 0 0, Value.int 3 0, Value.ref 426, Value.bool true, Value.int 181 0, Value.ref 427, Value.none, Value.none, Value.none, Value.ref 428, Value.int 798 0, Value.int 235 0, Value.str (Str.ofString "/claim/cut.py") 799]) #[]
@[reducible] noncomputable def o_422 (P : Params) : Obj := withDef (s := fnAt 31 0) rfl fun A B S => Obj.mk (Value.type "function") none (Data.func (FuncData.mk (Str.ofString "law") (Str.ofString "law") A (FuncBody.stmts B) S 3 [] Value.none Value.none Value.none (Value.str (Str.ofString "law_pb0376_02") 784) none (Value.ref 429) Value.none 0)) #[]
noncomputable def heapA (P : Params) : Heap := Heap.mk (Array.mk [boot_o_0 P, boot_o_1 P, boot_o_2 P, boot_o_3 P, boot_o_4 P, boot_o_5 P, boot_o_6 P, boot_o_7 P, boot_o_8 P, boot_o_9 P, boot_o_10 P, o_0 P, o_1 P, o_2 P, o_3 P]) {}
noncomputable def treeB (P : Params) : BT := (BT.node (boot_o_0 P) (BT.node (boot_o_1 P) (BT.node (boot_o_3 P) (BT.node (boot_o_7 P) BT.nil BT.nil) (BT.node (o_0 P) BT.nil BT.nil)) (BT.node (boot_o_5 P) (BT.node (boot_o_9 P) BT.nil BT.nil) (BT.node (o_2 P) BT.nil BT.nil))) (BT.node (boot_o_2 P) (BT.node (boot_o_4 P) (BT.node (boot_o_8 P) BT.nil BT.nil) (BT.node (o_1 P) BT.nil BT.nil)) (BT.node (boot_o_6 P) (BT.node (boot_o_10 P) BT.nil BT.nil) (BT.node (o_3 P) BT.nil BT.nil))))
noncomputable def treeC (P : Params) : BT := (BT.node (boot_o_0 P) (BT.node (boot_o_1 P) (BT.node (o_5 P) (BT.node (boot_o_7 P) (BT.node (o_7 P) (BT.node (o_23 P) (BT.node (o_55 P) (BT.node (o_119 P) (BT.node (o_247 P) BT.nil BT.nil) (BT.node (o_375 P) BT.nil BT.nil)) (BT.node (o_183 P) (BT.node (o_311 P) BT.nil BT.nil) BT.nil)) (BT.node (o_87 P) (BT.node (o_151 P) (BT.node (o_279 P) BT.nil BT.nil) (BT.node (o_407 P) BT.nil BT.nil)) (BT.node (o_215 P) (BT.node (o_343 P) BT.nil BT.nil) BT.nil))) (BT.node (o_39 P) (BT.node (o_71 P) (BT.node (o_135 P) (BT.node (o_263 P) BT.nil BT.nil) (BT.node (o_391 P) BT.nil BT.nil)) (BT.node (o_199 P) (BT.node (o_327 P) BT.nil BT.nil) BT.nil)) (BT.node (o_103 P) (BT.node (o_167 P) (BT.node (o_295 P) BT.nil BT.nil) BT.nil) (BT.node (o_231 P) (BT.node (o_359 P) BT.nil BT.nil) BT.nil)))) (BT.node (o_15 P) (BT.node (o_31 P) (BT.node (o_63 P) (BT.node (o_127 P) (BT.node (o_255 P) BT.nil BT.nil) (BT.node (o_383 P) BT.nil BT.nil)) (BT.node (o_191 P) (BT.node (o_319 P) BT.nil BT.nil) BT.nil)) (BT.node (o_95 P) (BT.node (o_159 P) (BT.node (o_287 P) BT.nil BT.nil) (BT.node (o_415 P) BT.nil BT.nil)) (BT.node (o_223 P) (BT.node (o_351 P) BT.nil BT.nil) BT.nil))) (BT.node (o_47 P) (BT.node (o_79 P) (BT.node (o_143 P) (BT.node (o_271 P) BT.nil BT.nil) (BT.node (o_399 P) BT.nil BT.nil)) (BT.node (o_207 P) (BT.node (o_335 P) BT.nil BT.nil) BT.nil)) (BT.node (o_111 P) (BT.node (o_175 P) (BT.node (o_303 P) BT.nil BT.nil) BT.nil) (BT.node (o_239 P) (BT.node (o_367 P) BT.nil BT.nil) BT.nil))))) (BT.node (o_0 P) (BT.node (o_11 P) (BT.node (o_27 P) (BT.node (o_59 P) (BT.node (o_123 P) (BT.node (o_251 P) BT.nil BT.nil) (BT.node (o_379 P) BT.nil BT.nil)) (BT.node (o_187 P) (BT.node (o_315 P) BT.nil BT.nil) BT.nil)) (BT.node (o_91 P) (BT.node (o_155 P) (BT.node (o_283 P) BT.nil BT.nil) (BT.node (o_411 P) BT.nil BT.nil)) (BT.node (o_219 P) (BT.node (o_347 P) BT.nil BT.nil) BT.nil))) (BT.node (o_43 P) (BT.node (o_75 P) (BT.node (o_139 P) (BT.node (o_267 P) BT.nil BT.nil) (BT.node (o_395 P) BT.nil BT.nil)) (BT.node (o_203 P) (BT.node (o_331 P) BT.nil BT.nil) BT.nil)) (BT.node (o_107 P) (BT.node (o_171 P) (BT.node (o_299 P) BT.nil BT.nil) BT.nil) (BT.node (o_235 P) (BT.node (o_363 P) BT.nil BT.nil) BT.nil)))) (BT.node (o_19 P) (BT.node (o_35 P) (BT.node (o_67 P) (BT.node (o_131 P) (BT.node (o_259 P) BT.nil BT.nil) (BT.node (o_387 P) BT.nil BT.nil)) (BT.node (o_195 P) (BT.node (o_323 P) BT.nil BT.nil) BT.nil)) (BT.node (o_99 P) (BT.node (o_163 P) (BT.node (o_291 P) BT.nil BT.nil) (BT.node (o_419 P) BT.nil BT.nil)) (BT.node (o_227 P) (BT.node (o_355 P) BT.nil BT.nil) BT.nil))) (BT.node (o_51 P) (BT.node (o_83 P) (BT.node (o_147 P) (BT.node (o_275 P) BT.nil BT.nil) (BT.node (o_403 P) BT.nil BT.nil)) (BT.node (o_211 P) (BT.node (o_339 P) BT.nil BT.nil) BT.nil)) (BT.node (o_115 P) (BT.node (o_179 P) (BT.node (o_307 P) BT.nil BT.nil) BT.nil) (BT.node (o_243 P) (BT.node (o_371 P) BT.nil BT.nil) BT.nil)))))) (BT.node (boot_o_5 P) (BT.node (boot_o_9 P) (BT.node (o_9 P) (BT.node (o_25 P) (BT.node (o_57 P) (BT.node (o_121 P) (BT.node (o_249 P) BT.nil BT.nil) (BT.node (o_377 P) BT.nil BT.nil)) (BT.node (o_185 P) (BT.node (o_313 P) BT.nil BT.nil) BT.nil)) (BT.node (o_89 P) (BT.node (o_153 P) (BT.node (o_281 P) BT.nil BT.nil) (BT.node (o_409 P) BT.nil BT.nil)) (BT.node (o_217 P) (BT.node (o_345 P) BT.nil BT.nil) BT.nil))) (BT.node (o_41 P) (BT.node (o_73 P) (BT.node (o_137 P) (BT.node (o_265 P) BT.nil BT.nil) (BT.node (o_393 P) BT.nil BT.nil)) (BT.node (o_201 P) (BT.node (o_329 P) BT.nil BT.nil) BT.nil)) (BT.node (o_105 P) (BT.node (o_169 P) (BT.node (o_297 P) BT.nil BT.nil) BT.nil) (BT.node (o_233 P) (BT.node (o_361 P) BT.nil BT.nil) BT.nil)))) (BT.node (o_17 P) (BT.node (o_33 P) (BT.node (o_65 P) (BT.node (o_129 P) (BT.node (o_257 P) BT.nil BT.nil) (BT.node (o_385 P) BT.nil BT.nil)) (BT.node (o_193 P) (BT.node (o_321 P) BT.nil BT.nil) BT.nil)) (BT.node (o_97 P) (BT.node (o_161 P) (BT.node (o_289 P) BT.nil BT.nil) (BT.node (o_417 P) BT.nil BT.nil)) (BT.node (o_225 P) (BT.node (o_353 P) BT.nil BT.nil) BT.nil))) (BT.node (o_49 P) (BT.node (o_81 P) (BT.node (o_145 P) (BT.node (o_273 P) BT.nil BT.nil) (BT.node (o_401 P) BT.nil BT.nil)) (BT.node (o_209 P) (BT.node (o_337 P) BT.nil BT.nil) BT.nil)) (BT.node (o_113 P) (BT.node (o_177 P) (BT.node (o_305 P) BT.nil BT.nil) BT.nil) (BT.node (o_241 P) (BT.node (o_369 P) BT.nil BT.nil) BT.nil))))) (BT.node (o_2 P) (BT.node (o_13 P) (BT.node (o_29 P) (BT.node (o_61 P) (BT.node (o_125 P) (BT.node (o_253 P) BT.nil BT.nil) (BT.node (o_381 P) BT.nil BT.nil)) (BT.node (o_189 P) (BT.node (o_317 P) BT.nil BT.nil) BT.nil)) (BT.node (o_93 P) (BT.node (o_157 P) (BT.node (o_285 P) BT.nil BT.nil) (BT.node (o_413 P) BT.nil BT.nil)) (BT.node (o_221 P) (BT.node (o_349 P) BT.nil BT.nil) BT.nil))) (BT.node (o_45 P) (BT.node (o_77 P) (BT.node (o_141 P) (BT.node (o_269 P) BT.nil BT.nil) (BT.node (o_397 P) BT.nil BT.nil)) (BT.node (o_205 P) (BT.node (o_333 P) BT.nil BT.nil) BT.nil)) (BT.node (o_109 P) (BT.node (o_173 P) (BT.node (o_301 P) BT.nil BT.nil) BT.nil) (BT.node (o_237 P) (BT.node (o_365 P) BT.nil BT.nil) BT.nil)))) (BT.node (o_21 P) (BT.node (o_37 P) (BT.node (o_69 P) (BT.node (o_133 P) (BT.node (o_261 P) BT.nil BT.nil) (BT.node (o_389 P) BT.nil BT.nil)) (BT.node (o_197 P) (BT.node (o_325 P) BT.nil BT.nil) BT.nil)) (BT.node (o_101 P) (BT.node (o_165 P) (BT.node (o_293 P) BT.nil BT.nil) (BT.node (o_421 P) BT.nil BT.nil)) (BT.node (o_229 P) (BT.node (o_357 P) BT.nil BT.nil) BT.nil))) (BT.node (o_53 P) (BT.node (o_85 P) (BT.node (o_149 P) (BT.node (o_277 P) BT.nil BT.nil) (BT.node (o_405 P) BT.nil BT.nil)) (BT.node (o_213 P) (BT.node (o_341 P) BT.nil BT.nil) BT.nil)) (BT.node (o_117 P) (BT.node (o_181 P) (BT.node (o_309 P) BT.nil BT.nil) BT.nil) (BT.node (o_245 P) (BT.node (o_373 P) BT.nil BT.nil) BT.nil))))))) (BT.node (o_4 P) (BT.node (boot_o_4 P) (BT.node (boot_o_8 P) (BT.node (o_8 P) (BT.node (o_24 P) (BT.node (o_56 P) (BT.node (o_120 P) (BT.node (o_248 P) BT.nil BT.nil) (BT.node (o_376 P) BT.nil BT.nil)) (BT.node (o_184 P) (BT.node (o_312 P) BT.nil BT.nil) BT.nil)) (BT.node (o_88 P) (BT.node (o_152 P) (BT.node (o_280 P) BT.nil BT.nil) (BT.node (o_408 P) BT.nil BT.nil)) (BT.node (o_216 P) (BT.node (o_344 P) BT.nil BT.nil) BT.nil))) (BT.node (o_40 P) (BT.node (o_72 P) (BT.node (o_136 P) (BT.node (o_264 P) BT.nil BT.nil) (BT.node (o_392 P) BT.nil BT.nil)) (BT.node (o_200 P) (BT.node (o_328 P) BT.nil BT.nil) BT.nil)) (BT.node (o_104 P) (BT.node (o_168 P) (BT.node (o_296 P) BT.nil BT.nil) BT.nil) (BT.node (o_232 P) (BT.node (o_360 P) BT.nil BT.nil) BT.nil)))) (BT.node (o_16 P) (BT.node (o_32 P) (BT.node (o_64 P) (BT.node (o_128 P) (BT.node (o_256 P) BT.nil BT.nil) (BT.node (o_384 P) BT.nil BT.nil)) (BT.node (o_192 P) (BT.node (o_320 P) BT.nil BT.nil) BT.nil)) (BT.node (o_96 P) (BT.node (o_160 P) (BT.node (o_288 P) BT.nil BT.nil) (BT.node (o_416 P) BT.nil BT.nil)) (BT.node (o_224 P) (BT.node (o_352 P) BT.nil BT.nil) BT.nil))) (BT.node (o_48 P) (BT.node (o_80 P) (BT.node (o_144 P) (BT.node (o_272 P) BT.nil BT.nil) (BT.node (o_400 P) BT.nil BT.nil)) (BT.node (o_208 P) (BT.node (o_336 P) BT.nil BT.nil) BT.nil)) (BT.node (o_112 P) (BT.node (o_176 P) (BT.node (o_304 P) BT.nil BT.nil) BT.nil) (BT.node (o_240 P) (BT.node (o_368 P) BT.nil BT.nil) BT.nil))))) (BT.node (o_6 P) (BT.node (o_12 P) (BT.node (o_28 P) (BT.node (o_60 P) (BT.node (o_124 P) (BT.node (o_252 P) BT.nil BT.nil) (BT.node (o_380 P) BT.nil BT.nil)) (BT.node (o_188 P) (BT.node (o_316 P) BT.nil BT.nil) BT.nil)) (BT.node (o_92 P) (BT.node (o_156 P) (BT.node (o_284 P) BT.nil BT.nil) (BT.node (o_412 P) BT.nil BT.nil)) (BT.node (o_220 P) (BT.node (o_348 P) BT.nil BT.nil) BT.nil))) (BT.node (o_44 P) (BT.node (o_76 P) (BT.node (o_140 P) (BT.node (o_268 P) BT.nil BT.nil) (BT.node (o_396 P) BT.nil BT.nil)) (BT.node (o_204 P) (BT.node (o_332 P) BT.nil BT.nil) BT.nil)) (BT.node (o_108 P) (BT.node (o_172 P) (BT.node (o_300 P) BT.nil BT.nil) BT.nil) (BT.node (o_236 P) (BT.node (o_364 P) BT.nil BT.nil) BT.nil)))) (BT.node (o_20 P) (BT.node (o_36 P) (BT.node (o_68 P) (BT.node (o_132 P) (BT.node (o_260 P) BT.nil BT.nil) (BT.node (o_388 P) BT.nil BT.nil)) (BT.node (o_196 P) (BT.node (o_324 P) BT.nil BT.nil) BT.nil)) (BT.node (o_100 P) (BT.node (o_164 P) (BT.node (o_292 P) BT.nil BT.nil) (BT.node (o_420 P) BT.nil BT.nil)) (BT.node (o_228 P) (BT.node (o_356 P) BT.nil BT.nil) BT.nil))) (BT.node (o_52 P) (BT.node (o_84 P) (BT.node (o_148 P) (BT.node (o_276 P) BT.nil BT.nil) (BT.node (o_404 P) BT.nil BT.nil)) (BT.node (o_212 P) (BT.node (o_340 P) BT.nil BT.nil) BT.nil)) (BT.node (o_116 P) (BT.node (o_180 P) (BT.node (o_308 P) BT.nil BT.nil) BT.nil) (BT.node (o_244 P) (BT.node (o_372 P) BT.nil BT.nil) BT.nil)))))) (BT.node (boot_o_6 P) (BT.node (boot_o_10 P) (BT.node (o_10 P) (BT.node (o_26 P) (BT.node (o_58 P) (BT.node (o_122 P) (BT.node (o_250 P) BT.nil BT.nil) (BT.node (o_378 P) BT.nil BT.nil)) (BT.node (o_186 P) (BT.node (o_314 P) BT.nil BT.nil) BT.nil)) (BT.node (o_90 P) (BT.node (o_154 P) (BT.node (o_282 P) BT.nil BT.nil) (BT.node (o_410 P) BT.nil BT.nil)) (BT.node (o_218 P) (BT.node (o_346 P) BT.nil BT.nil) BT.nil))) (BT.node (o_42 P) (BT.node (o_74 P) (BT.node (o_138 P) (BT.node (o_266 P) BT.nil BT.nil) (BT.node (o_394 P) BT.nil BT.nil)) (BT.node (o_202 P) (BT.node (o_330 P) BT.nil BT.nil) BT.nil)) (BT.node (o_106 P) (BT.node (o_170 P) (BT.node (o_298 P) BT.nil BT.nil) BT.nil) (BT.node (o_234 P) (BT.node (o_362 P) BT.nil BT.nil) BT.nil)))) (BT.node (o_18 P) (BT.node (o_34 P) (BT.node (o_66 P) (BT.node (o_130 P) (BT.node (o_258 P) BT.nil BT.nil) (BT.node (o_386 P) BT.nil BT.nil)) (BT.node (o_194 P) (BT.node (o_322 P) BT.nil BT.nil) BT.nil)) (BT.node (o_98 P) (BT.node (o_162 P) (BT.node (o_290 P) BT.nil BT.nil) (BT.node (o_418 P) BT.nil BT.nil)) (BT.node (o_226 P) (BT.node (o_354 P) BT.nil BT.nil) BT.nil))) (BT.node (o_50 P) (BT.node (o_82 P) (BT.node (o_146 P) (BT.node (o_274 P) BT.nil BT.nil) (BT.node (o_402 P) BT.nil BT.nil)) (BT.node (o_210 P) (BT.node (o_338 P) BT.nil BT.nil) BT.nil)) (BT.node (o_114 P) (BT.node (o_178 P) (BT.node (o_306 P) BT.nil BT.nil) BT.nil) (BT.node (o_242 P) (BT.node (o_370 P) BT.nil BT.nil) BT.nil))))) (BT.node (o_3 P) (BT.node (o_14 P) (BT.node (o_30 P) (BT.node (o_62 P) (BT.node (o_126 P) (BT.node (o_254 P) BT.nil BT.nil) (BT.node (o_382 P) BT.nil BT.nil)) (BT.node (o_190 P) (BT.node (o_318 P) BT.nil BT.nil) BT.nil)) (BT.node (o_94 P) (BT.node (o_158 P) (BT.node (o_286 P) BT.nil BT.nil) (BT.node (o_414 P) BT.nil BT.nil)) (BT.node (o_222 P) (BT.node (o_350 P) BT.nil BT.nil) BT.nil))) (BT.node (o_46 P) (BT.node (o_78 P) (BT.node (o_142 P) (BT.node (o_270 P) BT.nil BT.nil) (BT.node (o_398 P) BT.nil BT.nil)) (BT.node (o_206 P) (BT.node (o_334 P) BT.nil BT.nil) BT.nil)) (BT.node (o_110 P) (BT.node (o_174 P) (BT.node (o_302 P) BT.nil BT.nil) BT.nil) (BT.node (o_238 P) (BT.node (o_366 P) BT.nil BT.nil) BT.nil)))) (BT.node (o_22 P) (BT.node (o_38 P) (BT.node (o_70 P) (BT.node (o_134 P) (BT.node (o_262 P) BT.nil BT.nil) (BT.node (o_390 P) BT.nil BT.nil)) (BT.node (o_198 P) (BT.node (o_326 P) BT.nil BT.nil) BT.nil)) (BT.node (o_102 P) (BT.node (o_166 P) (BT.node (o_294 P) BT.nil BT.nil) (BT.node (o_422 P) BT.nil BT.nil)) (BT.node (o_230 P) (BT.node (o_358 P) BT.nil BT.nil) BT.nil))) (BT.node (o_54 P) (BT.node (o_86 P) (BT.node (o_150 P) (BT.node (o_278 P) BT.nil BT.nil) (BT.node (o_406 P) BT.nil BT.nil)) (BT.node (o_214 P) (BT.node (o_342 P) BT.nil BT.nil) BT.nil)) (BT.node (o_118 P) (BT.node (o_182 P) (BT.node (o_310 P) BT.nil BT.nil) BT.nil) (BT.node (o_246 P) (BT.node (o_374 P) BT.nil BT.nil) BT.nil))))))))
noncomputable def heapC (P : Params) : Heap := Heap.mk (Array.mk [boot_o_0 P, boot_o_1 P, o_4 P, o_5 P, boot_o_4 P, boot_o_5 P, boot_o_6 P, boot_o_7 P, boot_o_8 P, boot_o_9 P, boot_o_10 P, o_0 P, o_6 P, o_2 P, o_3 P, o_7 P, o_8 P, o_9 P, o_10 P, o_11 P, o_12 P, o_13 P, o_14 P, o_15 P, o_16 P, o_17 P, o_18 P, o_19 P, o_20 P, o_21 P, o_22 P, o_23 P, o_24 P, o_25 P, o_26 P, o_27 P, o_28 P, o_29 P, o_30 P, o_31 P, o_32 P, o_33 P, o_34 P, o_35 P, o_36 P, o_37 P, o_38 P, o_39 P, o_40 P, o_41 P, o_42 P, o_43 P, o_44 P, o_45 P, o_46 P, o_47 P, o_48 P, o_49 P, o_50 P, o_51 P, o_52 P, o_53 P, o_54 P, o_55 P, o_56 P, o_57 P, o_58 P, o_59 P, o_60 P, o_61 P, o_62 P, o_63 P, o_64 P, o_65 P, o_66 P, o_67 P, o_68 P, o_69 P, o_70 P, o_71 P, o_72 P, o_73 P, o_74 P, o_75 P, o_76 P, o_77 P, o_78 P, o_79 P, o_80 P, o_81 P, o_82 P, o_83 P, o_84 P, o_85 P, o_86 P, o_87 P, o_88 P, o_89 P, o_90 P, o_91 P, o_92 P, o_93 P, o_94 P, o_95 P, o_96 P, o_97 P, o_98 P, o_99 P, o_100 P, o_101 P, o_102 P, o_103 P, o_104 P, o_105 P, o_106 P, o_107 P, o_108 P, o_109 P, o_110 P, o_111 P, o_112 P, o_113 P, o_114 P, o_115 P, o_116 P, o_117 P, o_118 P, o_119 P, o_120 P, o_121 P, o_122 P, o_123 P, o_124 P, o_125 P, o_126 P, o_127 P, o_128 P, o_129 P, o_130 P, o_131 P, o_132 P, o_133 P, o_134 P, o_135 P, o_136 P, o_137 P, o_138 P, o_139 P, o_140 P, o_141 P, o_142 P, o_143 P, o_144 P, o_145 P, o_146 P, o_147 P, o_148 P, o_149 P, o_150 P, o_151 P, o_152 P, o_153 P, o_154 P, o_155 P, o_156 P, o_157 P, o_158 P, o_159 P, o_160 P, o_161 P, o_162 P, o_163 P, o_164 P, o_165 P, o_166 P, o_167 P, o_168 P, o_169 P, o_170 P, o_171 P, o_172 P, o_173 P, o_174 P, o_175 P, o_176 P, o_177 P, o_178 P, o_179 P, o_180 P, o_181 P, o_182 P, o_183 P, o_184 P, o_185 P, o_186 P, o_187 P, o_188 P, o_189 P, o_190 P, o_191 P, o_192 P, o_193 P, o_194 P, o_195 P, o_196 P, o_197 P, o_198 P, o_199 P, o_200 P, o_201 P, o_202 P, o_203 P, o_204 P, o_205 P, o_206 P, o_207 P, o_208 P, o_209 P, o_210 P, o_211 P, o_212 P, o_213 P, o_214 P, o_215 P, o_216 P, o_217 P, o_218 P, o_219 P, o_220 P, o_221 P, o_222 P, o_223 P, o_224 P, o_225 P, o_226 P, o_227 P, o_228 P, o_229 P, o_230 P, o_231 P, o_232 P, o_233 P, o_234 P, o_235 P, o_236 P, o_237 P, o_238 P, o_239 P, o_240 P, o_241 P, o_242 P, o_243 P, o_244 P, o_245 P, o_246 P, o_247 P, o_248 P, o_249 P, o_250 P, o_251 P, o_252 P, o_253 P, o_254 P, o_255 P, o_256 P, o_257 P, o_258 P, o_259 P, o_260 P, o_261 P, o_262 P, o_263 P, o_264 P, o_265 P, o_266 P, o_267 P, o_268 P, o_269 P, o_270 P, o_271 P, o_272 P, o_273 P, o_274 P, o_275 P, o_276 P, o_277 P, o_278 P, o_279 P, o_280 P, o_281 P, o_282 P, o_283 P, o_284 P, o_285 P, o_286 P, o_287 P, o_288 P, o_289 P, o_290 P, o_291 P, o_292 P, o_293 P, o_294 P, o_295 P, o_296 P, o_297 P, o_298 P, o_299 P, o_300 P, o_301 P, o_302 P, o_303 P, o_304 P, o_305 P, o_306 P, o_307 P, o_308 P, o_309 P, o_310 P, o_311 P, o_312 P, o_313 P, o_314 P, o_315 P, o_316 P, o_317 P, o_318 P, o_319 P, o_320 P, o_321 P, o_322 P, o_323 P, o_324 P, o_325 P, o_326 P, o_327 P, o_328 P, o_329 P, o_330 P, o_331 P, o_332 P, o_333 P, o_334 P, o_335 P, o_336 P, o_337 P, o_338 P, o_339 P, o_340 P, o_341 P, o_342 P, o_343 P, o_344 P, o_345 P, o_346 P, o_347 P, o_348 P, o_349 P, o_350 P, o_351 P, o_352 P, o_353 P, o_354 P, o_355 P, o_356 P, o_357 P, o_358 P, o_359 P, o_360 P, o_361 P, o_362 P, o_363 P, o_364 P, o_365 P, o_366 P, o_367 P, o_368 P, o_369 P, o_370 P, o_371 P, o_372 P, o_373 P, o_374 P, o_375 P, o_376 P, o_377 P, o_378 P, o_379 P, o_380 P, o_381 P, o_382 P, o_383 P, o_384 P, o_385 P, o_386 P, o_387 P, o_388 P, o_389 P, o_390 P, o_391 P, o_392 P, o_393 P, o_394 P, o_395 P, o_396 P, o_397 P, o_398 P, o_399 P, o_400 P, o_401 P, o_402 P, o_403 P, o_404 P, o_405 P, o_406 P, o_407 P, o_408 P, o_409 P, o_410 P, o_411 P, o_412 P, o_413 P, o_414 P, o_415 P, o_416 P, o_417 P, o_418 P, o_419 P, o_420 P, o_421 P, o_422 P]) {}
noncomputable def K : Params → Frag := fun P => (nat_lit 2, o_4 P) :: (nat_lit 3, o_5 P) :: (nat_lit 15, o_7 P) :: (nat_lit 17, o_9 P) :: (nat_lit 18, o_10 P) :: (nat_lit 20, o_12 P) :: (nat_lit 21, o_13 P) :: (nat_lit 22, o_14 P) :: (nat_lit 24, o_16 P) :: (nat_lit 25, o_17 P) :: (nat_lit 27, o_19 P) :: (nat_lit 28, o_20 P) :: (nat_lit 29, o_21 P) :: (nat_lit 31, o_23 P) :: (nat_lit 32, o_24 P) :: (nat_lit 34, o_26 P) :: (nat_lit 35, o_27 P) :: (nat_lit 36, o_28 P) :: (nat_lit 38, o_30 P) :: (nat_lit 39, o_31 P) :: (nat_lit 41, o_33 P) :: (nat_lit 42, o_34 P) :: (nat_lit 50, o_42 P) :: (nat_lit 52, o_44 P) :: (nat_lit 53, o_45 P) :: (nat_lit 55, o_47 P) :: (nat_lit 56, o_48 P) :: (nat_lit 57, o_49 P) :: (nat_lit 58, o_50 P) :: (nat_lit 59, o_51 P) :: (nat_lit 60, o_52 P) :: (nat_lit 61, o_53 P) :: (nat_lit 64, o_56 P) :: (nat_lit 66, o_58 P) :: (nat_lit 67, o_59 P) :: (nat_lit 69, o_61 P) :: (nat_lit 70, o_62 P) :: (nat_lit 78, o_70 P) :: (nat_lit 80, o_72 P) :: (nat_lit 81, o_73 P) :: (nat_lit 83, o_75 P) :: (nat_lit 84, o_76 P) :: (nat_lit 85, o_77 P) :: (nat_lit 87, o_79 P) :: (nat_lit 88, o_80 P) :: (nat_lit 90, o_82 P) :: (nat_lit 91, o_83 P) :: (nat_lit 92, o_84 P) :: (nat_lit 94, o_86 P) :: (nat_lit 95, o_87 P) :: (nat_lit 97, o_89 P) :: (nat_lit 98, o_90 P) :: (nat_lit 99, o_91 P) :: (nat_lit 101, o_93 P) :: (nat_lit 102, o_94 P) :: (nat_lit 104, o_96 P) :: (nat_lit 105, o_97 P) :: (nat_lit 106, o_98 P) :: (nat_lit 108, o_100 P) :: (nat_lit 109, o_101 P) :: (nat_lit 111, o_103 P) :: (nat_lit 112, o_104 P) :: (nat_lit 113, o_105 P) :: (nat_lit 115, o_107 P) :: (nat_lit 116, o_108 P) :: (nat_lit 118, o_110 P) :: (nat_lit 119, o_111 P) :: (nat_lit 120, o_112 P) :: (nat_lit 122, o_114 P) :: (nat_lit 123, o_115 P) :: (nat_lit 125, o_117 P) :: (nat_lit 126, o_118 P) :: (nat_lit 127, o_119 P) :: (nat_lit 129, o_121 P) :: (nat_lit 130, o_122 P) :: (nat_lit 132, o_124 P) :: (nat_lit 133, o_125 P) :: (nat_lit 134, o_126 P) :: (nat_lit 136, o_128 P) :: (nat_lit 137, o_129 P) :: (nat_lit 139, o_131 P) :: (nat_lit 140, o_132 P) :: (nat_lit 141, o_133 P) :: (nat_lit 142, o_134 P) :: (nat_lit 143, o_135 P) :: (nat_lit 144, o_136 P) :: (nat_lit 145, o_137 P) :: (nat_lit 148, o_140 P) :: (nat_lit 155, o_147 P) :: (nat_lit 156, o_148 P) :: (nat_lit 157, o_149 P) :: (nat_lit 158, o_150 P) :: (nat_lit 161, o_153 P) :: (nat_lit 168, o_160 P) :: (nat_lit 170, o_162 P) :: (nat_lit 171, o_163 P) :: (nat_lit 173, o_165 P) :: (nat_lit 174, o_166 P) :: (nat_lit 175, o_167 P) :: (nat_lit 176, o_168 P) :: (nat_lit 177, o_169 P) :: (nat_lit 187, o_179 P) :: (nat_lit 189, o_181 P) :: (nat_lit 190, o_182 P) :: (nat_lit 192, o_184 P) :: (nat_lit 193, o_185 P) :: (nat_lit 194, o_186 P) :: (nat_lit 196, o_188 P) :: (nat_lit 197, o_189 P) :: (nat_lit 199, o_191 P) :: (nat_lit 200, o_192 P) :: (nat_lit 201, o_193 P) :: (nat_lit 203, o_195 P) :: (nat_lit 204, o_196 P) :: (nat_lit 206, o_198 P) :: (nat_lit 207, o_199 P) :: (nat_lit 208, o_200 P) :: (nat_lit 210, o_202 P) :: (nat_lit 211, o_203 P) :: (nat_lit 213, o_205 P) :: (nat_lit 214, o_206 P) :: (nat_lit 215, o_207 P) :: (nat_lit 217, o_209 P) :: (nat_lit 218, o_210 P) :: (nat_lit 220, o_212 P) :: (nat_lit 221, o_213 P) :: (nat_lit 222, o_214 P) :: (nat_lit 224, o_216 P) :: (nat_lit 225, o_217 P) :: (nat_lit 227, o_219 P) :: (nat_lit 228, o_220 P) :: (nat_lit 229, o_221 P) :: (nat_lit 231, o_223 P) :: (nat_lit 232, o_224 P) :: (nat_lit 234, o_226 P) :: (nat_lit 235, o_227 P) :: (nat_lit 236, o_228 P) :: (nat_lit 238, o_230 P) :: (nat_lit 239, o_231 P) :: (nat_lit 241, o_233 P) :: (nat_lit 242, o_234 P) :: (nat_lit 243, o_235 P) :: (nat_lit 244, o_236 P) :: (nat_lit 245, o_237 P) :: (nat_lit 246, o_238 P) :: (nat_lit 247, o_239 P) :: (nat_lit 257, o_249 P) :: (nat_lit 259, o_251 P) :: (nat_lit 260, o_252 P) :: (nat_lit 262, o_254 P) :: (nat_lit 263, o_255 P) :: (nat_lit 264, o_256 P) :: (nat_lit 266, o_258 P) :: (nat_lit 267, o_259 P) :: (nat_lit 269, o_261 P) :: (nat_lit 270, o_262 P) :: (nat_lit 271, o_263 P) :: (nat_lit 273, o_265 P) :: (nat_lit 274, o_266 P) :: (nat_lit 276, o_268 P) :: (nat_lit 277, o_269 P) :: (nat_lit 278, o_270 P) :: (nat_lit 280, o_272 P) :: (nat_lit 281, o_273 P) :: (nat_lit 283, o_275 P) :: (nat_lit 284, o_276 P) :: (nat_lit 285, o_277 P) :: (nat_lit 287, o_279 P) :: (nat_lit 288, o_280 P) :: (nat_lit 290, o_282 P) :: (nat_lit 291, o_283 P) :: (nat_lit 292, o_284 P) :: (nat_lit 294, o_286 P) :: (nat_lit 295, o_287 P) :: (nat_lit 297, o_289 P) :: (nat_lit 298, o_290 P) :: (nat_lit 299, o_291 P) :: (nat_lit 300, o_292 P) :: (nat_lit 301, o_293 P) :: (nat_lit 302, o_294 P) :: (nat_lit 303, o_295 P) :: (nat_lit 306, o_298 P) :: (nat_lit 308, o_300 P) :: (nat_lit 309, o_301 P) :: (nat_lit 311, o_303 P) :: (nat_lit 312, o_304 P) :: (nat_lit 320, o_312 P) :: (nat_lit 321, o_313 P) :: (nat_lit 323, o_315 P) :: (nat_lit 324, o_316 P) :: (nat_lit 326, o_318 P) :: (nat_lit 327, o_319 P) :: (nat_lit 328, o_320 P) :: (nat_lit 330, o_322 P) :: (nat_lit 331, o_323 P) :: (nat_lit 333, o_325 P) :: (nat_lit 334, o_326 P) :: (nat_lit 335, o_327 P) :: (nat_lit 337, o_329 P) :: (nat_lit 338, o_330 P) :: (nat_lit 340, o_332 P) :: (nat_lit 341, o_333 P) :: (nat_lit 342, o_334 P) :: (nat_lit 344, o_336 P) :: (nat_lit 345, o_337 P) :: (nat_lit 347, o_339 P) :: (nat_lit 348, o_340 P) :: (nat_lit 349, o_341 P) :: (nat_lit 351, o_343 P) :: (nat_lit 352, o_344 P) :: (nat_lit 354, o_346 P) :: (nat_lit 355, o_347 P) :: (nat_lit 356, o_348 P) :: (nat_lit 358, o_350 P) :: (nat_lit 359, o_351 P) :: (nat_lit 361, o_353 P) :: (nat_lit 362, o_354 P) :: (nat_lit 363, o_355 P) :: (nat_lit 365, o_357 P) :: (nat_lit 366, o_358 P) :: (nat_lit 368, o_360 P) :: (nat_lit 369, o_361 P) :: (nat_lit 370, o_362 P) :: (nat_lit 372, o_364 P) :: (nat_lit 373, o_365 P) :: (nat_lit 375, o_367 P) :: (nat_lit 376, o_368 P) :: (nat_lit 377, o_369 P) :: (nat_lit 379, o_371 P) :: (nat_lit 380, o_372 P) :: (nat_lit 382, o_374 P) :: (nat_lit 383, o_375 P) :: (nat_lit 384, o_376 P) :: (nat_lit 386, o_378 P) :: (nat_lit 387, o_379 P) :: (nat_lit 389, o_381 P) :: (nat_lit 390, o_382 P) :: (nat_lit 391, o_383 P) :: (nat_lit 392, o_384 P) :: (nat_lit 393, o_385 P) :: (nat_lit 394, o_386 P) :: (nat_lit 395, o_387 P) :: (nat_lit 405, o_397 P) :: (nat_lit 407, o_399 P) :: (nat_lit 408, o_400 P) :: (nat_lit 410, o_402 P) :: (nat_lit 411, o_403 P) :: (nat_lit 412, o_404 P) :: (nat_lit 413, o_405 P) :: (nat_lit 414, o_406 P) :: (nat_lit 415, o_407 P) :: (nat_lit 416, o_408 P) :: (nat_lit 419, o_411 P) :: (nat_lit 421, o_413 P) :: (nat_lit 422, o_414 P) :: (nat_lit 424, o_416 P) :: (nat_lit 425, o_417 P) :: (nat_lit 426, o_418 P) :: (nat_lit 429, o_421 P) :: (nat_lit 430, o_422 P) :: []
noncomputable def kAs : List Addr := nat_lit 2 :: nat_lit 3 :: nat_lit 15 :: nat_lit 17 :: nat_lit 18 :: nat_lit 20 :: nat_lit 21 :: nat_lit 22 :: nat_lit 24 :: nat_lit 25 :: nat_lit 27 :: nat_lit 28 :: nat_lit 29 :: nat_lit 31 :: nat_lit 32 :: nat_lit 34 :: nat_lit 35 :: nat_lit 36 :: nat_lit 38 :: nat_lit 39 :: nat_lit 41 :: nat_lit 42 :: nat_lit 50 :: nat_lit 52 :: nat_lit 53 :: nat_lit 55 :: nat_lit 56 :: nat_lit 57 :: nat_lit 58 :: nat_lit 59 :: nat_lit 60 :: nat_lit 61 :: nat_lit 64 :: nat_lit 66 :: nat_lit 67 :: nat_lit 69 :: nat_lit 70 :: nat_lit 78 :: nat_lit 80 :: nat_lit 81 :: nat_lit 83 :: nat_lit 84 :: nat_lit 85 :: nat_lit 87 :: nat_lit 88 :: nat_lit 90 :: nat_lit 91 :: nat_lit 92 :: nat_lit 94 :: nat_lit 95 :: nat_lit 97 :: nat_lit 98 :: nat_lit 99 :: nat_lit 101 :: nat_lit 102 :: nat_lit 104 :: nat_lit 105 :: nat_lit 106 :: nat_lit 108 :: nat_lit 109 :: nat_lit 111 :: nat_lit 112 :: nat_lit 113 :: nat_lit 115 :: nat_lit 116 :: nat_lit 118 :: nat_lit 119 :: nat_lit 120 :: nat_lit 122 :: nat_lit 123 :: nat_lit 125 :: nat_lit 126 :: nat_lit 127 :: nat_lit 129 :: nat_lit 130 :: nat_lit 132 :: nat_lit 133 :: nat_lit 134 :: nat_lit 136 :: nat_lit 137 :: nat_lit 139 :: nat_lit 140 :: nat_lit 141 :: nat_lit 142 :: nat_lit 143 :: nat_lit 144 :: nat_lit 145 :: nat_lit 148 :: nat_lit 155 :: nat_lit 156 :: nat_lit 157 :: nat_lit 158 :: nat_lit 161 :: nat_lit 168 :: nat_lit 170 :: nat_lit 171 :: nat_lit 173 :: nat_lit 174 :: nat_lit 175 :: nat_lit 176 :: nat_lit 177 :: nat_lit 187 :: nat_lit 189 :: nat_lit 190 :: nat_lit 192 :: nat_lit 193 :: nat_lit 194 :: nat_lit 196 :: nat_lit 197 :: nat_lit 199 :: nat_lit 200 :: nat_lit 201 :: nat_lit 203 :: nat_lit 204 :: nat_lit 206 :: nat_lit 207 :: nat_lit 208 :: nat_lit 210 :: nat_lit 211 :: nat_lit 213 :: nat_lit 214 :: nat_lit 215 :: nat_lit 217 :: nat_lit 218 :: nat_lit 220 :: nat_lit 221 :: nat_lit 222 :: nat_lit 224 :: nat_lit 225 :: nat_lit 227 :: nat_lit 228 :: nat_lit 229 :: nat_lit 231 :: nat_lit 232 :: nat_lit 234 :: nat_lit 235 :: nat_lit 236 :: nat_lit 238 :: nat_lit 239 :: nat_lit 241 :: nat_lit 242 :: nat_lit 243 :: nat_lit 244 :: nat_lit 245 :: nat_lit 246 :: nat_lit 247 :: nat_lit 257 :: nat_lit 259 :: nat_lit 260 :: nat_lit 262 :: nat_lit 263 :: nat_lit 264 :: nat_lit 266 :: nat_lit 267 :: nat_lit 269 :: nat_lit 270 :: nat_lit 271 :: nat_lit 273 :: nat_lit 274 :: nat_lit 276 :: nat_lit 277 :: nat_lit 278 :: nat_lit 280 :: nat_lit 281 :: nat_lit 283 :: nat_lit 284 :: nat_lit 285 :: nat_lit 287 :: nat_lit 288 :: nat_lit 290 :: nat_lit 291 :: nat_lit 292 :: nat_lit 294 :: nat_lit 295 :: nat_lit 297 :: nat_lit 298 :: nat_lit 299 :: nat_lit 300 :: nat_lit 301 :: nat_lit 302 :: nat_lit 303 :: nat_lit 306 :: nat_lit 308 :: nat_lit 309 :: nat_lit 311 :: nat_lit 312 :: nat_lit 320 :: nat_lit 321 :: nat_lit 323 :: nat_lit 324 :: nat_lit 326 :: nat_lit 327 :: nat_lit 328 :: nat_lit 330 :: nat_lit 331 :: nat_lit 333 :: nat_lit 334 :: nat_lit 335 :: nat_lit 337 :: nat_lit 338 :: nat_lit 340 :: nat_lit 341 :: nat_lit 342 :: nat_lit 344 :: nat_lit 345 :: nat_lit 347 :: nat_lit 348 :: nat_lit 349 :: nat_lit 351 :: nat_lit 352 :: nat_lit 354 :: nat_lit 355 :: nat_lit 356 :: nat_lit 358 :: nat_lit 359 :: nat_lit 361 :: nat_lit 362 :: nat_lit 363 :: nat_lit 365 :: nat_lit 366 :: nat_lit 368 :: nat_lit 369 :: nat_lit 370 :: nat_lit 372 :: nat_lit 373 :: nat_lit 375 :: nat_lit 376 :: nat_lit 377 :: nat_lit 379 :: nat_lit 380 :: nat_lit 382 :: nat_lit 383 :: nat_lit 384 :: nat_lit 386 :: nat_lit 387 :: nat_lit 389 :: nat_lit 390 :: nat_lit 391 :: nat_lit 392 :: nat_lit 393 :: nat_lit 394 :: nat_lit 395 :: nat_lit 405 :: nat_lit 407 :: nat_lit 408 :: nat_lit 410 :: nat_lit 411 :: nat_lit 412 :: nat_lit 413 :: nat_lit 414 :: nat_lit 415 :: nat_lit 416 :: nat_lit 419 :: nat_lit 421 :: nat_lit 422 :: nat_lit 424 :: nat_lit 425 :: nat_lit 426 :: nat_lit 429 :: nat_lit 430 :: []
@[reducible] noncomputable def loose0 : List Str := []
noncomputable def envT : Env := { scope := pw.main.scope, locals := mainNs, globals := mainNs, cells := [], code := Value.ref 13, frame := some 14 }
noncomputable abbrev cE : Code := Code.body (behindTheImports pw) envT
noncomputable abbrev p00 : Pos := ⟨0, 0, 0, 0⟩
noncomputable abbrev pZZ : Pos := ⟨235, 0, 266, 80⟩
@[reducible] noncomputable def sA (w : World) (os : OsState) : Shared := ⟨heapA w.params, Array.mk [], {}, 187, os⟩
@[reducible] noncomputable def sB (w : World) (os : OsState) : SharedT := ⟨treeB w.params, 15, {}, Array.mk [], {}, 187, os⟩
@[reducible] noncomputable def sC (w : World) (os : OsState) : SharedT := ⟨treeC w.params, 431, {}, Array.mk [], {}, 801, os⟩
@[reducible] noncomputable def sZ (w : World) (os : OsState) : Shared := ⟨heapC w.params, Array.mk [], {}, 801, os⟩
theorem hPre : ∀ w : World, (fun os => topGo treeTable pw w 11 (some (Value.ref 6)) 12 ⟨boot_heap w.params, Array.mk [], boot_drawn, boot_toks, os⟩ (topStub pw)) =
    fun os => some (sA w os, ⟨denote treeTable cE, cE, p00, [topFrame p00]⟩) := fun w => by
  rw [PySem.W.Fast.te15667345088766844465, PySem.W.Fast.te14364793385576792824, PySem.W.Fast.te11892475500146522536]; kernel_rfl
theorem hBlock : ∀ w : World, (fun os => segRun treeTable pw w 11 (some (Value.ref 6)) 1 1 (sA w os) (blockOf (behindTheImports pw) envT cE p00 [topFrame p00])) =
    fun os => some (Flow.next, (sB w os).abs, cE, p00) := fun w => by
  rw [PySem.W.Fast.te14374325043358763698, PySem.W.Fast.te14364793385576792824]; kernel_rfl
theorem hAll : ∀ w : World, (fun os => segRunT treeTable pw w 11 (some (Value.ref 6)) 1 3152 (sB w os) (piecesOf (behindTheImports pw) envT cE p00 [topFrame p00])) =
    fun os => some (Flow.next, sC w os, cE, pZZ) := fun w => by
  rw [PySem.W.Fast.te10110043849684766642, PySem.W.Fast.te14364793385576792824]; kernel_rfl
theorem hFin : ∀ w : World, (fun os => topRun treeTable pw w 11 (some (Value.ref 6)) 2 (sC w os).abs ⟨doneF Flow.next, cE, pZZ, [topFrame p00]⟩) = fun os => some (sZ w os) := fun w => by
  rw [PySem.W.Fast.te14082659384304107361, PySem.W.Fast.te14364793385576792824]; kernel_rfl
theorem hRun (w : World) (os : OsState) : topRun treeTable pw w 11 (some (Value.ref 6)) (12 + (1 + (3152 + 2))) ⟨boot_heap w.params, Array.mk [], boot_drawn, boot_toks, os⟩ (topStub pw) = some (sZ w os) := by
  refine go_top (congrFun (hPre w) os) ?_
  refine piece_block (congrFun (hBlock w) os) ?_
  have h := piece_app (rest := []) (segRun_of (congrFun (hAll w) os)) (piece_nil (env := envT) (congrFun (hFin w) os))
  rw [List.append_nil] at h
  exact h
theorem hOpen : ∀ w : World, (fencedOpening treeTable pw w 6428).map (fun s => (s.heap, s.gens, s.drawn, s.toks)) = some (boot_heap w.params, Array.mk [], boot_drawn, boot_toks) :=
  boot_open (by kernel_rfl) (by decide) (fun s => by kernel_rfl)
theorem hSize : ∀ w : World, ((boot_heap w.params).isNs mainGlobals && (Array.mk ([] : List GenState)).size == 0, (boot_heap w.params).objs.size, (boot_heap w.params).nsMap mainGlobals "__annotations__") = (true, 11, some (Value.ref 6)) := fun w => by
  rw [PySem.W.Fast.te8920871248978507458]; kernel_rfl
theorem lk0 (w : World) (os : OsState) : (staticsOk (importedModules pw.main.body) (boot_heap w.params) (heapC w.params) && namesBound pw (heapC w.params) && gensDone (sZ w os) && laidKept (boot_heap w.params) (heapC w.params)) = true := by
  rw [PySem.W.Fast.te5923862056798008813]; kernel_rfl
theorem lk1 (w : World) (os : OsState) : seen (List.map (fun x => x.name) (recsOf qv)) (ownsOf qv) [] { sZ w os with gens := #[] } = expectedOf qv := by
  rw [PySem.W.Fast.te5160383126252970620, PySem.W.Fast.te3399658132070893891, PySem.W.Fast.te5991557255702980513, PySem.W.R.mapR_eq]; kernel_rfl
theorem lk2 (w : World) (os : OsState) : (sZ w os).heap.bltView = bltViewBooted := by kernel_rfl
theorem lk3 (w : World) (os : OsState) : ((sZ w os).heap.keysOk (looseW qv loose0) ((recsOf qv).map (·.name)) ((litsOf qv).map (·.1)) ((clssOf qv (looseW qv loose0)).map (·.name)) && (sZ w os).heap.accountedOkI (importedModules pw.main.body) && (sZ w os).heap.isNs mainGlobals && (sZ w os).heap.isNs builtinsNs && tablesOk qv (sZ w os).heap &&
    (fun s => xlAt qv [] s && recOk (PySem.Challenge.rw_pb0376_02.row.toRowW.records) s) (sZ w os) && (if true = true then (sZ w os).gens.size == 0 else !leftWithCleanup (sZ w os).gens)) = true := by
  rw [PySem.W.Fast.te10880121769531294198, PySem.W.Fast.te821141287760084731, PySem.W.Fast.te3399658132070893891, PySem.W.Fast.te7409074990110511671, PySem.W.Fast.te13664370479719496447, PySem.W.Fast.te14722251495701143533, PySem.W.Fast.te5923862056798008813, PySem.W.Fast.te10994771534591457954, PySem.W.R.mapR_eq]; kernel_rfl
theorem lk4 (w : World) (os : OsState) : tabsOk qv (sZ w os) = true := by
  rw [PySem.W.Fast.te479339242167458305]; kernel_rfl
theorem lk5 (w : World) (os : OsState) : pinSeenD qv (drecsOf qv) (sZ w os) = pinGoodD (drecsOf qv) := by
  rw [PySem.W.Fast.te16090120013241838585, PySem.W.Fast.te3247288618530077131]; kernel_rfl
theorem lk6 (w : World) (os : OsState) : plainSeenE qv (looseW qv loose0) (sZ w os) = plainGoodE qv (looseW qv loose0) := by
  rw [PySem.W.Fast.te2386780881361962483, PySem.W.Fast.te821141287760084731]; kernel_rfl
theorem lk7 (w : World) (os : OsState) : plainSeenD qv loose0 (sZ w os) = plainGoodD qv loose0 := by
  rw [PySem.W.Fast.te11698064438423848299]; kernel_rfl
theorem lk8 (w : World) (os : OsState) : wideSeen qv (sZ w os) = wideGood qv := by
  rw [PySem.W.Fast.te7317090234206586261]; kernel_rfl
theorem lk9 (w : World) (os : OsState) : clsSeenW qv loose0 (sZ w os) = clsGoodW qv loose0 := by
  rw [PySem.W.Fast.te7369524293546568484]; kernel_rfl
theorem kE : ∀ P, kAs = (K P).map (·.1) := fun _ => by kernel_rfl
theorem lkK (w : World) (os : OsState) : (kHook K kAs kE).obs (sZ w os) = (kHook K kAs kE).val w := by kernel_rfl

open PySem PySem.W PySem.Calls PyProof.Rows PyProof.V
@[reducible] noncomputable def withD {s : Stmt} {n : Str} {A : Arguments} {B : List Stmt} {S : Scope} {p : Pos} (_ : s = Stmt.FunctionDef n A B [] none [] S none n p) : DefRec := ⟨n, A, B, S, p⟩
@[reducible] noncomputable def dLaw : DefRec := withD (s := fnAt 31 0) rfl
theorem openSeen_of {q : Program} {loose mods : List Str} {Xt : Shared → Bool} {g0 : Bool} {s : Shared}
    (h1 : seen ((recsOf q).map (·.name)) (ownsOf q) [] { s with gens := #[] } = expectedOf q) (h2 : s.heap.bltView = bltViewBooted)
    (h3 : (s.heap.keysOk (looseW q loose) ((recsOf q).map (·.name)) ((litsOf q).map (·.1)) ((clssOf q (looseW q loose)).map (·.name)) && s.heap.accountedOkI mods && s.heap.isNs mainGlobals && s.heap.isNs builtinsNs && tablesOk q s.heap && Xt s && (if g0 then s.gens.size == 0 else !leftWithCleanup s.gens)) = true)
    (h4 : tabsOk q s = true) (h5 : pinSeenD q (drecsOf q) s = pinGoodD (drecsOf q)) (h6 : plainSeenE q (looseW q loose) s = plainGoodE q (looseW q loose)) (h7 : plainSeenD q loose s = plainGoodD q loose) (h8 : wideSeen q s = wideGood q) (h9 : clsSeenW q loose s = clsGoodW q loose) :
    openSeen q loose mods Xt g0 s = openGood q loose := by unfold openSeen openGood; rw [h1, h2, h3, h4, h5, h6, h7, h8, h9]
noncomputable abbrev Xt0 : Shared → Bool := fun s => xlAt qv [] s && recOk (PySem.Challenge.rw_pb0376_02.row.toRowW.records) s
theorem leftO : LeftO pw qv loose0 Xt0 (kHook K kAs kE).obs (kHook K kAs kE).val 6428 true :=
  LeftO.of_pieces (H₀ := boot_heap) (H₁ := heapC) hOpen hSize hRun rfl fun w => funext fun os => Prod.ext (lk0 w os) (Prod.ext (openSeen_of (s := sZ w os) (lk1 w os) (lk2 w os) (lk3 w os) (lk4 w os) (lk5 w os) (lk6 w os) (lk7 w os) (lk8 w os) (lk9 w os)) (lkK w os))
theorem ws : PySem.Challenge.rw_pb0376_02.wellSaid = true := by kernel_rfl
theorem hd0 (hc : WalkO qv loose0 (XL qv []) (kHook K kAs kE).says PySem.Challenge.rw_pb0376_02.row.toRowW dLaw [] fun f vs => PySem.call f vs) : PySem.Challenge.rw_pb0376_02.Holds := by
  w_on
  refine holds_law ws fun said => ?_
  refine holds_open (q := qv) (loose := loose0) (Xt := Xt0) (XP := XL qv []) (Yf := (kHook K kAs kE).obs) (Ya := (kHook K kAs kE).val) (YP := (kHook K kAs kE).says) (N := 6428) leftO (kHook K kAs kE).of (kHook K kAs kE).keeps (fun s e => xl_of s (Bool.and_eq_true_iff.mp e).1) XL.keeps (by rfl) (by rfl) (by rfl) (fun s e => recFacts_of (Bool.and_eq_true_iff.mp e).2) rfl (by first | assumption | decide +kernel) (by decide +kernel) ⟨rfl, rfl, rfl, rfl, rfl, by decide +kernel⟩ ?hw hc
  case hw => w_witness2
end MineH

namespace Mine
section
open PySem PySem.W PySem.Calls PyProof.Rows PyProof.V

noncomputable abbrev ent (name : String) (hs : Int) (tk : Tok) (v : Value) : DictEntry := ⟨hs, .str (Str.ofString name) tk, v⟩
/-- the surroundings of a call, written open -/
noncomputable abbrev mkA (hdl : Option Value) (d : Nat) (env : Env) (outer : List Env) (gs : Option (List Code)) (u : Nat) : Around := ⟨hdl, d, some (env :: outer), gs, u⟩

theorem tail_ne {d : Addr} {r : List (Addr × Obj)} (h : AllLt d r) : ∀ p ∈ r, p.1 ≠ d := by
  induction r with
  | nil => intro p hp; cases hp
  | cons a r ih =>
    intro p hp
    rcases List.mem_cons.mp hp with rfl | hp
    · exact Nat.ne_of_lt h.1
    · exact ih h.2 p hp
theorem tail_ne' {d : Addr} {r : List (Addr × Obj)} (h : ∀ p ∈ r, p.1 < d) : ∀ p ∈ r, p.1 ≠ d := fun p hp => Nat.ne_of_lt (h p hp)

theorem News.sub {h₀ h : Heap} {L : Addr} {news news' : List (Addr × Obj)} (N : News h₀ L h news) (hs : ∀ p ∈ news', p ∈ news) : News h₀ L h news' := fun p hp => N p (hs p hp)

section
variable {prog : Program} {w : World} {A₀ A : Around} {s : Shared} {base h₀ : Heap} {outer : List Env} {L : Addr} {m mg mb : Str → Option Value} {env : Env} {news touched : List (Addr × Obj)} {K : Frag} {p : Program} {loose : List Str} {mean : ExcName → Option Value}
  {R : Result → Shared → Prop} {name qual : Str} {params : Arguments} {body : List Stmt} {scope : Scope} {dV kV doc pm cdv ct oc : Value} {an od : Option Addr} {osl : Array (Option Value)} {f : Addr} {args : Args} {binds : List (Str × Value)}

/-- a call of a def; only the objects that the call may change go into the callee's ledger, all others into its ground -/
theorem call_frame (B : Below A₀ base outer h₀) (F : Fr h₀ L s.heap m) (X₀ : K.In h₀) (N : News h₀ L s.heap touched) (T : Top p loose mean mg mb h₀) (hA : A.frames = some (env :: outer)) (hf : env.frame = some L) (hke : env.scope.kind = .function)
    (ho : K.lookup f = some ⟨oc, od, .func (fnOf name qual params body scope dV kV doc pm an cdv ct), osl⟩) (hcd : codeIn K cdv qual = true) (hroom : A.depth < recursionLimit)
    (hbind : BindsTo s (fnOf name qual params body scope dV kV doc pm an cdv ct) args binds) (hloc : ∀ y ∈ binds, scope.names.lookup y.1 = some .local)
    (h : ∀ g L' h₁, Fr h₀ L g m → Fr g L' h₁ (fun y => binds.reverse.lookup y) → News g L' h₁ touched → Below A base (env :: outer) g → K.In g → Top p loose mean mg mb g →
      (∀ b o, s.heap.get? b = some o → b ∉ touched.map (·.1) → g.get? b = some o) →
      wpAny (model prog w) (A.deeper (envOf qual scope L' f cdv)) (execs body (envOf qual scope L' f cdv))
        (fun fl s' => LeaveK h₀ L m g R (match fl with | .ret v => v | _ => .none) s')
        (fun e s' => wpAny (model prog w) (A.deeper (envOf qual scope L' f cdv)) (leaving (envOf qual scope L' f cdv) e) (fun _ s'' => R (.error e) s'') (fun e' s'' => R (.error e') s'') s')
        { s with heap := h₁, toks := s.toks + binds.length })
    (hco : scope.isCoroutine = false) (hgen : scope.isGenerator = false) (hk : scope.kind = .function)
    (hcell : ∀ x ∈ scope.names, x.2 ≠ .cell) : codeAny (model prog w) A (.call (.ref f) args) R s := by
  obtain ⟨FG, BG, st, lv⟩ := groundX (R := R) B F N hA hf hke
  have XK := X₀.keeps F.keep
  refine codeAny_call_def (fd := fnOf name qual params body scope dV kV doc pm an cdv ct) (body := body) (binds := binds) hroom (XK _ _ ho) rfl (T.nolimit.keeps F.keep) (codeRec_of XK hcd) rfl hbind hcell hloc (fun h₁ hns hk₁ => ?_) hco hgen hk
  exact wpAny_mono (h _ s.heap.objs.size h₁ FG ⟨hns, fun b o e => hk₁ b o (of_hideAll _ e), Nat.le_of_eq (hideAll_size _ _)⟩
    (fun p hp => ⟨hk₁ _ _ (N p hp).1, Nat.ne_of_lt (Heap.lt_size (N p hp).1), hideAll_none _ (List.mem_map_of_mem hp)⟩) BG (X₀.keeps st) (T.keeps st) fun b o e hb => hideAll_get _ e hb) (fun fl s' hl => lv _ _ hl) fun _ _ y => y
end

theorem valueAt_cons (a : Int × Value) (r : List (Int × Value)) (x : Int) : valueAt (a :: r) x = if a.1 = x then some a.2 else valueAt r x := by
  unfold valueAt
  rw [List.find?_cons]
  by_cases h : a.1 = x <;> simp [h]
theorem valueAt_map (k : Int) (v : Value) (x : Int) : ∀ kvs : List (Int × Value), valueAt (kvs.map fun kv => if kv.1 = k then (kv.1, v) else kv) x = if x = k then (valueAt kvs x).map (fun _ => v) else valueAt kvs x
  | [] => by by_cases h : x = k <;> simp [h, valueAt]
  | a :: r => by
    rw [List.map_cons, valueAt_cons, valueAt_cons, valueAt_map k v x r]
    by_cases ha : a.1 = k <;> by_cases hx : x = k <;> by_cases hax : a.1 = x <;> simp_all
theorem valueAt_snoc (k : Int) (v : Value) (x : Int) : ∀ kvs : List (Int × Value), valueAt (kvs ++ [(k, v)]) x = (valueAt kvs x).or (if k = x then some v else none)
  | [] => by by_cases h : k = x <;> simp [h, valueAt]
  | a :: r => by
    rw [List.cons_append, valueAt_cons, valueAt_cons, valueAt_snoc k v x r]
    by_cases h : a.1 = x <;> simp [h]
theorem valueAt_none_of {k : Int} : ∀ {kvs : List (Int × Value)}, kvs.any (fun kv => decide (kv.1 = k)) = false → valueAt kvs k = none
  | [], _ => rfl
  | a :: r, h => by
    rw [List.any_cons, Bool.or_eq_false_iff] at h
    rw [valueAt_cons, if_neg (of_decide_eq_false h.1)]
    exact valueAt_none_of h.2
theorem valueAt_some_of {k : Int} : ∀ {kvs : List (Int × Value)}, kvs.any (fun kv => decide (kv.1 = k)) = true → (valueAt kvs k).isSome = true
  | [], h => by cases h
  | a :: r, h => by
    rw [valueAt_cons]
    by_cases ha : a.1 = k
    · rw [if_pos ha]; rfl
    · rw [if_neg ha]
      rw [List.any_cons, decide_eq_false ha, Bool.false_or] at h
      exact valueAt_some_of h
theorem valueAt_stored (kvs : List (Int × Value)) (k : Int) (v : Value) (x : Int) : valueAt (stored kvs k v) x = if x = k then some v else valueAt kvs x := by
  unfold stored
  cases h : kvs.any (fun kv => decide (kv.1 = k)) with
  | true =>
    rw [if_pos rfl, valueAt_map]
    by_cases hx : x = k
    · subst hx
      obtain ⟨u, hu⟩ := Option.isSome_iff_exists.mp (valueAt_some_of h)
      simp [hu]
    · simp [hx]
  | false =>
    rw [if_neg Bool.false_ne_true, valueAt_snoc]
    by_cases hx : x = k
    · subst hx; simp [valueAt_none_of h]
    · rw [if_neg (fun e => hx e.symm), if_neg hx]; simp

/-- a dict of words: int keys, ints under them, 0 where nothing lies -/
noncomputable def Words (prog : Program) (w : World) (o : Obj) (f : Int → Int) (c : Nat) : Prop :=
  ∃ kvs : List (Int × Value), o.IsDictOf (intKind prog w) kvs ∧ kvs.length ≤ c ∧ ∀ i, (valueAt kvs i = none ∧ f i = 0) ∨ ∃ t, valueAt kvs i = some (.int (f i) t)

theorem Words.new {prog : Program} {w : World} {o : Obj} (h : o.IsDictOf (intKind prog w) []) : Words prog w o (fun _ => 0) 0 := ⟨[], h, Nat.le_refl _, fun _ => .inl ⟨rfl, rfl⟩⟩

section
variable {prog : Program} {w : World} {A : Around} {E : Value → Shared → Prop} {s : Shared} {h₀ : Heap} {L d : Addr} {m : Str → Option Value} {news : List (Addr × Obj)} {g : Obj → List (Addr × Obj)} {o : Obj} {f : Int → Int} {c : Nat}

theorem Words.method {pl : Sem Bool} {Q : Value × List Value → Shared → Prop} (N : News h₀ L s.heap news) (hm : (d, o) ∈ news) (W : Words prog w o f c) (h : Q (.builtin "dict.get", [.ref d]) s) :
    wpAny (model prog w) A (getMethod (.ref d) "get" pl) Q E s := by
  obtain ⟨kvs, hd, _⟩ := W
  have D : s.heap.DictOf (intKind prog w) d kvs := Heap.dictOf_iff.mpr ⟨o, N.get hm, hd⟩
  exact getMethod_builtin D.typeIs PySem.F.plainAttrs_dict PySem.F.slot_dict_get PySem.F.type_dict_get D.mapOf.noDict h
theorem Words.get {i : Int} {t t0 : Tok} {Q : Value → Shared → Prop} (N : News h₀ L s.heap news) (hm : (d, o) ∈ news) (W : Words prog w o f c) (lo : (d == sysModules) = false)
    (h : ∀ t', Q (.int (f i) t') { s with toks := s.toks + 1 }) : wpAny (model prog w) A (call (.builtin "dict.get") [.ref d, .int i t, .int 0 t0]) Q E s := by
  obtain ⟨kvs, hd, _, hf⟩ := W
  have D : s.heap.DictOf (intKind prog w) d kvs := Heap.dictOf_iff.mpr ⟨o, N.get hm, hd⟩
  refine call_meetsIn PySem.F.slot_dict_get D.typeIs PySem.F.entry_dict_get (PySem.F.args_dict_get_3 _ _ _) (meets_dict_get_default (intKind prog w) d (intKind_is prog w i t) lo _) ⟨_, D.mapOf, ?_⟩
  rcases hf i with ⟨a, b⟩ | ⟨t', a⟩
  · rw [a, Option.getD_none, ← b]; exact h _
  · rw [a, Option.getD_some]; exact h _
theorem Words.put {i v : Int} {t tv : Tok} {Q : Unit → Shared → Prop} (F : Fr h₀ L s.heap m) (N : News h₀ L s.heap news) (U : UpdF d o news g) (W : Words prog w o f c) (hc : c ≤ 1000)
    (h : ∀ h' o', Fr h₀ L h' m → News h₀ L h' (g o') → Words prog w o' (fun x => if x = i then v else f x) (c + 1) → Q () { s with heap := h', toks := s.toks + 1 }) :
    wpAny (model prog w) A (setItem (.ref d) (.int i t) (.int v tv)) Q E s := by
  obtain ⟨pre, post, rfl, hg, a, b⟩ := U.split
  obtain ⟨kvs, hd, hl, hf⟩ := W
  have hm := N (d, o) (List.mem_append_right _ (.head _))
  refine wpAny_setItem_pairs (hsz := by rw [sizeLine_eq]; omega) (intKind_is prog w i t) (Heap.dictOf_iff.mpr ⟨o, hm.1, hd⟩) fun h' hmm hs => ?_
  obtain ⟨o', ho', hd'⟩ := Heap.dictOf_iff.mp hmm
  refine h h' o' (F.change hs hm.2.1 hm.2.2) (by rw [hg]; exact N.setIn a b hs ho') ⟨_, hd', Nat.le_trans (stored_length_le _ _ _) (Nat.succ_le_succ hl), fun x => ?_⟩
  rw [valueAt_stored]
  by_cases hx : x = i
  · exact .inr ⟨tv, by simp [hx]⟩
  · simp only [if_neg hx]; exact hf x
end

/-- the ledger behind a call that changed one object of it -/
theorem news_put {h₀ h h' : Heap} {L d : Addr} {o o' : Obj} {news : List (Addr × Obj)} {g : Obj → List (Addr × Obj)} (U : UpdF d o news g) (N : News h₀ L h news) (hd : h'.get? d = some o')
    (hk : ∀ b ob, b ≠ d → h.get? b = some ob → h'.get? b = some ob) : News h₀ L h' (g o') := by
  obtain ⟨pre, post, rfl, hg, a, b⟩ := U.split
  rw [hg]
  intro p hp
  rcases List.mem_append.mp hp with q | q
  · have P := N p (List.mem_append_left _ q); exact ⟨hk _ _ (a p q) P.1, P.2⟩
  · rcases List.mem_cons.mp q with rfl | q
    · exact ⟨hd, (N (d, o) (by simp)).2⟩
    · have P := N p (List.mem_append_right _ (.tail _ q)); exact ⟨hk _ _ (b p q) P.1, P.2⟩
theorem updF_mem {d : Addr} {o : Obj} {news : List (Addr × Obj)} {g : Obj → List (Addr × Obj)} (U : UpdF d o news g) : (d, o) ∈ news := by
  obtain ⟨pre, post, rfl, _⟩ := U.split; simp

/-- all that a call did not touch, or touched and left as it was, stands -/
theorem kept_but {h g h' : Heap} {ch : List Addr} {still : List (Addr × Obj)} (HG : ∀ b o, h.get? b = some o → b ∉ ch ++ still.map (·.1) → g.get? b = some o) (K : ∀ b o, g.get? b = some o → h'.get? b = some o)
    (hs : ∀ p ∈ still, h.get? p.1 = some p.2 ∧ h'.get? p.1 = some p.2) : ∀ b o, b ∉ ch → h.get? b = some o → h'.get? b = some o := by
  intro b o hb e
  by_cases hm : b ∈ still.map (·.1)
  · obtain ⟨p, hp, rfl⟩ := List.mem_map.mp hm
    obtain ⟨a, c⟩ := hs p hp
    rw [e] at a; cases a; exact c
  · exact K _ _ (HG _ _ e (by rw [List.mem_append]; exact fun h => h.elim hb hm))
end
section
open PySem PySem.W PySem.Calls PyProof.Rows PyProof.V

noncomputable abbrev tupOf (vs : List Value) (n : Nat) : Obj := { cls := .type "tuple", data := .seq vs.toArray n }
noncomputable abbrev lisOf (vs : List Value) (n : Nat) : Obj := listOf vs.toArray n

theorem grabN {P : Prop} {h₀ h : Heap} {L a : Addr} {o : Obj} {r : List (Addr × Obj)} (_N : News h₀ L h ((a, o) :: r)) (k : ∀ a₁, a₁ = a → P) : P := k a rfl
theorem grabF {P : Prop} {h₀ h : Heap} {L : Addr} {m : Str → Option Value} (_F : Fr h₀ L h m) (k : ∀ g₁ L₁ h₁ m₁, g₁ = h₀ → L₁ = L → h₁ = h → m₁ = m → P) : P := k _ _ _ _ rfl rfl rfl rfl
theorem grabL {P : Prop} {h₀ h : Heap} {L : Addr} {l : List (Addr × Obj)} (_N : News h₀ L h l) (k : ∀ l₁, l₁ = l → P) : P := k l rfl
theorem grabN2 {P : Prop} {h₀ h : Heap} {L a : Addr} {o : Obj} {p : Addr × Obj} {r : List (Addr × Obj)} (_N : News h₀ L h (p :: (a, o) :: r)) (k : ∀ a₁, a₁ = a → P) : P := k a rfl
theorem grabI {P : Prop} {vs : List Value} {ns : List Int} (_h : IntsAre vs ns) (k : ∀ v₁, v₁ = vs → P) : P := k vs rfl
theorem map_two {m : Str → Option Value} {x z : Str} {u v u' v' : Option Value} (hxz : x ≠ z) :
    (fun y => if y = z then v' else if y = x then v else if y = x then u else if y = z then u' else m y) = fun y => if y = x then v else if y = z then v' else m y := by
  funext y
  by_cases h1 : y = x
  · by_cases h2 : y = z
    · exact absurd (h1.symm.trans h2) hxz
    · subst h1; simp [hxz]
  · by_cases h2 : y = z
    · subst h2; simp [h1]
    · simp [h1, h2]
theorem map_self2 (m : Str → Option Value) (x z : Str) : m = fun y => if y = x then m x else if y = z then m z else m y := by
  funext y
  by_cases h1 : y = x
  · subst h1; simp
  · by_cases h2 : y = z
    · subst h2; simp [h1]
    · simp [h1, h2]
/-- the changed object ahead of the others -/
theorem upd_perm {a : Addr} {o : Obj} {news : List (Addr × Obj)} {g : Obj → List (Addr × Obj)} (U : UpdF a o news g) :
    ∃ rest, (∀ p ∈ (a, o) :: rest, p ∈ news) ∧ (∀ p ∈ rest, p.1 ≠ a) ∧ (∀ o', ∀ p ∈ g o', p ∈ (a, o') :: rest) ∧ ∀ p ∈ news, p.1 ≠ a → p ∈ rest := by
  obtain ⟨pre, post, rfl, hg, h1, h2⟩ := U.split
  refine ⟨pre ++ post, fun p hp => ?_, fun p hp => ?_, fun o' p hp => ?_, fun p hp hn => ?_⟩
  · rcases List.mem_cons.mp hp with rfl | hp
    · simp
    · rcases List.mem_append.mp hp with h | h
      · exact List.mem_append_left _ h
      · exact List.mem_append_right _ (.tail _ h)
  · rcases List.mem_append.mp hp with h | h
    · exact h1 p h
    · exact h2 p h
  · rw [hg] at hp
    rcases List.mem_append.mp hp with h | h
    · exact .tail _ (List.mem_append_left _ h)
    · rcases List.mem_cons.mp h with rfl | h
      · exact .head _
      · exact .tail _ (List.mem_append_right _ h)
  · rcases List.mem_append.mp hp with h | h
    · exact List.mem_append_left _ h
    · rcases List.mem_cons.mp h with rfl | h
      · exact absurd rfl hn
      · exact List.mem_append_right _ h
/-- a place where the walk halts -/
noncomputable def Held (P : Prop) : Prop := P
theorem held {P : Prop} (h : Held P) : P := h
theorem Held.of {P : Prop} (h : P) : Held P := h
theorem ne_of_lt9 {l : List (Addr × Obj)} {a x : Addr} {o : Obj} (h : ∀ p ∈ l, p.1 < x) (hm : (a, o) ∈ l) : @Ne Nat a x := Nat.ne_of_lt (h _ hm)
theorem ne_of_gt9 {l : List (Addr × Obj)} {a x : Addr} {o : Obj} (h : ∀ p ∈ l, p.1 < x) (hm : (a, o) ∈ l) : @Ne Nat x a := Nat.ne_of_gt (h _ hm)
theorem lts_sub {l l' : List (Addr × Obj)} {D : Addr} (h : ∀ p ∈ l, p.1 < D) (hs : ∀ p ∈ l', p ∈ l) : ∀ p ∈ l', p.1 < D := fun p hp => h p (hs p hp)
theorem ne_of_lts {l l' : List (Addr × Obj)} {D : Addr} (h : ∀ p ∈ l, p.1 < D) (hs : ∀ p ∈ l', p ∈ l) : ∀ p ∈ l', p.1 ≠ D := fun p hp => Nat.ne_of_lt (h p (hs p hp))
theorem news_ne {h₀ h : Heap} {L a b : Addr} {o o' : Obj} {news : List (Addr × Obj)} (N : News h₀ L h news) (h1 : (a, o) ∈ news) (h2 : (b, o') ∈ news) (hc : o.cls ≠ o'.cls) : @Ne Nat a b := by
  rintro rfl
  have e := (N _ h1).1.symm.trans (N _ h2).1
  exact hc (congrArg Obj.cls (Option.some.inj e))

section
variable {prog : Program} {w : World} {A : Around} {E : Value → Shared → Prop} {s : Shared} {h₀ : Heap} {L a : Addr} {m : Str → Option Value} {news : List (Addr × Obj)} {vs : List Value} {n : Nat} {k : Int} {u : Tok} {v : Value}

theorem len_lis {Q : Value → Shared → Prop} (N : News h₀ L s.heap news) (hm : (a, lisOf vs n) ∈ news) (hz : vs.length ≤ 100000) (h : Q (.int vs.length (s.toks + 1)) { s with toks := s.toks + 1 + 1 }) :
    wpAny (model prog w) A (call (.builtin "len") [.ref a]) Q E s := by
  have e : ((vs.toArray.size : Nat) : Int) = (vs.length : Int) := by simp
  exact len_list (News.isList N hm) (by omega) (e ▸ h)
theorem get_lis {Q : Value → Shared → Prop} (N : News h₀ L s.heap news) (hm : (a, lisOf vs n) ∈ news) (hz : vs.length ≤ 100000) (h0 : 0 ≤ k) (hv : vs[k.toNat]? = some v) (h : Q v s) :
    wpAny (model prog w) A (getItem (.ref a) (.int k u)) Q E s := by
  have hl := (List.getElem?_eq_some_iff.mp hv).1
  exact wpAny_getItem_list (News.isList N hm) h0 (by omega) (by simpa using hv) h
theorem sub_lis {value slice : PySem.Expr} {Q : Value → Shared → Prop} (N : News h₀ L s.heap news) (hm : (a, lisOf vs n) ∈ news) (hz : vs.length ≤ 100000) (h0 : 0 ≤ k) (hv : vs[k.toNat]? = some v) (h : Q v s)
    (hs : subscripted slice false (.ref a) (.int k u) = operate [.ref a, .int k u] (getItem (.ref a) (.int k u)) := by with_unfolding_all rfl) :
    wpAny (model prog w) A (subscriptTail value slice (.ref a) (.int k u)) Q E s :=
  tail_any (News.isList N hm).typeIs slot_list_getitem.lookup (get_lis N hm hz h0 hv h) hs
theorem app_lis {D : Addr} {news' : List (Addr × Obj)} {x : Value} {Q : Value → Shared → Prop} (F : Fr h₀ L s.heap m) (N : News h₀ L s.heap news) (U : Upd D (lisOf vs n) (lisOf (vs ++ [x]) (n + 1)) news news') (hz : vs.length ≤ 100000)
    (h : ∀ h', Fr h₀ L h' m → News h₀ L h' news' → Q .none { s with heap := h' }) : wpAny (model prog w) A (call (.builtin "list.append") [.ref D, x]) Q E s := by
  refine append_K F N (its := vs.toArray) (n := n) (news' := news') ?_ h (by rw [sizeLine_eq, List.size_toArray]; omega)
  have e : vs.toArray.push x = (vs ++ [x]).toArray := by simp
  rw [e]
  exact U
theorem rev_lis {D : Addr} {news' : List (Addr × Obj)} {Q : Value → Shared → Prop} (F : Fr h₀ L s.heap m) (N : News h₀ L s.heap news) (U : Upd D (lisOf vs n) (lisOf vs.reverse n) news news') (hz : vs.length ≤ 100000)
    (h : ∀ h', Fr h₀ L h' m → News h₀ L h' news' → Q .none { s with heap := h' }) : wpAny (model prog w) A (call (.builtin "list.reverse") [.ref D]) Q E s :=
  kl_reverse F N (l := vs.reverse) (its := vs.toArray) (by simp) U (by rw [sizeLine_eq]; simp; omega) h
theorem eq_int_ne {a b : Int} {t t' : Tok} {Q : Value → Shared → Prop} (hn : a ≠ b) (h : Q (.bool false) s) : wpAny (model prog w) A (compareOp .Eq (.int a t) (.int b t')) Q E s := by
  refine PyProof.Rows.eq_int ?_
  rw [show (a == b) = false from by simpa using hn]
  exact h
theorem eq_int_eq {a b : Int} {t t' : Tok} {Q : Value → Shared → Prop} (hn : a = b) (h : Q (.bool true) s) : wpAny (model prog w) A (compareOp .Eq (.int a t) (.int b t')) Q E s := by
  refine PyProof.Rows.eq_int ?_
  rw [show (a == b) = true from by simpa using hn]
  exact h
end
end
section
open PySem PySem.W PySem.Calls PyProof.Rows PyProof.V
section
variable {prog : Program} {w : World} {A : Around} {E : Value → Shared → Prop} {s : Shared} {env : Env} {h₀ : Heap} {x : Str} {body : List Stmt} {Q : Flow → Shared → Prop}
/-- a loop over a list of the ledger by what holds of the items that are left, the frame and the ledger -/
theorem listRest_J {I : Addr} {lp : Addr × Obj} (J : List Value → (Str → Option Value) → List (Addr × Obj) → Prop)
    (turn : ∀ v r m n (it : Obj) h tk, J (v :: r) m n → it.cls = .type "list_iterator" → Fr h₀ env.locals h (fun y => if y = x then some v else m y) → News h₀ env.locals h ((I, it) :: n) →
      wpAny (model prog w) A (execs body env) (UnrPost h₀ env.locals { s with heap := h, toks := tk } I it (fun m' n' => lp ∈ n' ∧ J r m' n') Q) E { s with heap := h, toks := tk })
    (done : ∀ m n h tk, J [] m n → Fr h₀ env.locals h m → News h₀ env.locals h n → Q .next { s with heap := h, toks := tk }) :
    ∀ vs m n, J vs m n → ListRest prog w A E h₀ env x body Q s I lp vs m n
  | [], m, n, hj => ListRest.zero fun h tk F N => done m n h tk hj F N
  | v :: r, m, n, hj => ListRest.succ fun it h tk hit F N => by
    refine wpAny_mono (turn v r m n it h tk hj hit F N) (fun f s₂ p => ?_) fun _ _ e => e
    have up : UnrEnd h₀ env.locals { s with heap := h, toks := tk } I it (fun m' n' => lp ∈ n' ∧ J r m' n') s₂ → UnrEnd h₀ env.locals { s with heap := h, toks := tk } I it (fun m' n' => lp ∈ n' ∧ ListRest prog w A E h₀ env x body Q s I lp r m' n') s₂ := by
      rintro ⟨h', tk', m', n', e, F', N', off, hl, hj'⟩
      exact ⟨h', tk', m', n', e, F', N', off, hl, listRest_J J turn done r m' n' hj'⟩
    cases f with
    | ret v => exact p
    | brk => exact p
    | next => exact up p
    | cont => exact up p
/-- the same over a range -/
theorem rangeRest_J {I : Addr} {a : Int} {n : Nat} (J : Nat → (Str → Option Value) → List (Addr × Obj) → Prop)
    (turn : ∀ i m l t h tk, i < n → J i m l → Fr h₀ env.locals h (fun y => if y = x then some (.int (a + (i : Int)) t) else m y) → News h₀ env.locals h ((I, itR (a + ((i + 1 : Nat) : Int)) ((n : Int) - ((i + 1 : Nat) : Int))) :: l) →
      wpAny (model prog w) A (execs body env) (UnrPost h₀ env.locals { s with heap := h, toks := tk } I (itR (a + ((i + 1 : Nat) : Int)) ((n : Int) - ((i + 1 : Nat) : Int))) (fun m' l' => J (i + 1) m' l') Q) E { s with heap := h, toks := tk })
    (done : ∀ m l h tk, J n m l → Fr h₀ env.locals h m → News h₀ env.locals h l → Q .next { s with heap := h, toks := tk }) :
    ∀ k i m l, i + k = n → J i m l → RangeRest prog w A E h₀ env x body Q s I a n k i m l
  | 0, i, m, l, hi, hj => RangeRest.zero fun h tk F N => done m l h tk ((show i = n by omega) ▸ hj) F N
  | k + 1, i, m, l, hi, hj => RangeRest.succ fun t h tk F N => by
    refine wpAny_mono (turn i m l t h tk (by omega) hj F N) (fun f s₂ p => ?_) fun _ _ e => e
    have up : UnrEnd h₀ env.locals { s with heap := h, toks := tk } I (itR (a + ((i + 1 : Nat) : Int)) ((n : Int) - ((i + 1 : Nat) : Int))) (fun m' l' => J (i + 1) m' l') s₂ →
        UnrEnd h₀ env.locals { s with heap := h, toks := tk } I (itR (a + ((i + 1 : Nat) : Int)) ((n : Int) - ((i + 1 : Nat) : Int))) (RangeRest prog w A E h₀ env x body Q s I a n k (i + 1)) s₂ := by
      rintro ⟨h', tk', m', n', e, F', N', off, hj'⟩
      exact ⟨h', tk', m', n', e, F', N', off, rangeRest_J J turn done k (i + 1) m' n' (by omega) hj'⟩
    cases f with
    | ret v => exact p
    | brk => exact p
    | next => exact up p
    | cont => exact up p
theorem iter_lis {ax : Addr} {lo : Obj} {vs : List Value} {n : Nat} {m₀ : Str → Option Value} {news : List (Addr × Obj)} (J : (Str → Option Value) → List Value → (Str → Option Value) → List (Addr × Obj) → Prop)
    (hh : A.handled = none) (F : Fr h₀ env.locals s.heap m₀) (N : News h₀ env.locals s.heap news) (hm : (ax, lo) ∈ news) (hc : lo.cls = .type "list") (hd : lo.data = .seq vs.toArray n) (hj : J m₀ vs m₀ news)
    (turn : ∀ I : Addr, (∀ p ∈ news, p.1 < I) → ∀ v r m n (it : Obj) h tk, J m₀ (v :: r) m n → it.cls = .type "list_iterator" → Fr h₀ env.locals h (fun y => if y = x then some v else m y) → News h₀ env.locals h ((I, it) :: n) →
      wpAny (model prog w) A (execs body env) (UnrPost h₀ env.locals { s with heap := h, toks := tk } I it (fun m' n' => (ax, lo) ∈ n' ∧ J m₀ r m' n') Q) E { s with heap := h, toks := tk })
    (done : ∀ m n h tk, J m₀ [] m n → Fr h₀ env.locals h m → News h₀ env.locals h n → Q .next { s with heap := h, toks := tk }) :
    wpAny (model prog w) A (pyIter (.ref ax)) (fun it s₂ => LoopAtV prog w A h₀ env x body Q E it s₂) E s :=
  iter_listUnr hh F N hm hc hd fun I hI => listRest_J (J m₀) (turn I hI) done vs m₀ news hj
theorem iter_ran {r : Addr} {a₀ b₀ : Int} {t₀ u₀ v₀ : Tok} {n : Nat} {m₀ : Str → Option Value} {news : List (Addr × Obj)} (J : (Str → Option Value) → Nat → (Str → Option Value) → List (Addr × Obj) → Prop)
    (hh : A.handled = none) (hr : IsRange s.heap r a₀ b₀ 1 t₀ u₀ v₀) (hsmall : Builtin.Range.small a₀ b₀ 1 = true) (hn : Builtin.Range.rangeSize a₀ b₀ 1 = (n : Int)) (F : Fr h₀ env.locals s.heap m₀) (N : News h₀ env.locals s.heap news) (hj : J m₀ 0 m₀ news)
    (turn : ∀ I : Addr, (∀ p ∈ news, p.1 < I) → ∀ i m l t h tk, i < n → J m₀ i m l → Fr h₀ env.locals h (fun y => if y = x then some (.int (a₀ + (i : Int)) t) else m y) → News h₀ env.locals h ((I, itR (a₀ + ((i + 1 : Nat) : Int)) ((n : Int) - ((i + 1 : Nat) : Int))) :: l) →
      wpAny (model prog w) A (execs body env) (UnrPost h₀ env.locals { s with heap := h, toks := tk } I (itR (a₀ + ((i + 1 : Nat) : Int)) ((n : Int) - ((i + 1 : Nat) : Int))) (fun m' l' => J m₀ (i + 1) m' l') Q) E { s with heap := h, toks := tk })
    (done : ∀ m l h tk, J m₀ n m l → Fr h₀ env.locals h m → News h₀ env.locals h l → Q .next { s with heap := h, toks := tk }) :
    wpAny (model prog w) A (pyIter (.ref r)) (fun it s₂ => LoopAtV prog w A h₀ env x body Q E it s₂) E s :=
  iter_rangeUnr hh hr hsmall hn F N fun I hI => rangeRest_J (J m₀) (turn I hI) done n 0 m₀ news (Nat.zero_add n) hj
end
theorem map_self (m : Str → Option Value) (x : Str) : m = fun y => if y = x then m x else m y := by
  funext y
  by_cases h : y = x
  · simp [h]
  · simp [h]
theorem map_again {m : Str → Option Value} {x : Str} {u v : Option Value} : (fun y => if y = x then v else if y = x then u else m y) = fun y => if y = x then v else m y := by
  funext y
  by_cases h : y = x <;> simp [h]
end
section
open PySem PySem.W PySem.Calls PyProof.Rows PyProof.V
noncomputable abbrev P2 : Program := PySem.Challenge.rw_pb0376_02.row.prog
noncomputable abbrev LB : List Str := looseW MineH.qv []
theorem fill_B1 : MineH.K = MineH.K ∧ PySem.Challenge.rw_pb0376_02 = PySem.Challenge.rw_pb0376_02 := by k_fill; exact ⟨rfl, rfl⟩
structure Cb (w : World) (A₀ : Around) (base h₀ : Heap) (outer : List Env) (env : Env) (L : Addr) (m mg mb : Str → Option Value) (mean : ExcName → Option Value) (h : Heap) : Prop where
  B : Below A₀ base outer h₀
  F : Fr h₀ L h m
  X : (MineH.K w.params).In h₀
  T : Top MineH.qv (LB) mean mg mb h₀
  hf : env.frame = some L
  hke : env.scope.kind = .function
theorem news_cons {h₀ h : Heap} {L : Addr} {p : Addr × Obj} {big rest : List (Addr × Obj)} (kN : News h₀ L h big) (hm : p ∈ big) (N : News h₀ L h rest) : News h₀ L h (p :: rest) := fun q hq => by
  rcases List.mem_cons.mp hq with rfl | hq
  · exact kN _ hm
  · exact N q hq
inductive MachB (o : Obj) (mem hp cpu ld out gv : Addr) (limit : Int) : Prop where
  | mk (x0 : _) (y0 : _) (t0 : _) (x1 : _) (y1 : _) (t1 : _) (x2 : _) (y2 : _) (t2 : _) (x3 : _) (y3 : _) (x4 : _) (y4 : _) (x5 : _) (y5 : _) (x6 : _) (y6 : _) (x7 : _) (y7 : _) (x8 : _) (y8 : _) (x9 : _) (y9 : _) (t9 : _) (x10 : _) (y10 : _) (t10 : _) (e0 : o = dictOf [ent "data_top" x0 y0 (.int 64 t0), ent "data_limit" x1 y1 (.int 128 t1), ent "stack_low" x2 y2 (.int 208 t2), ent "memory" x3 y3 (.ref mem),     ent "heap" x4 y4 (.ref hp), ent "cpu" x5 y5 (.ref cpu), ent "loaded" x6 y6 (.ref ld), ent "out" x7 y7 (.ref out), ent "given" x8 y8 (.ref gv), ent "limit" x9 y9 (.int limit t9), ent "steps" x10 y10 (.int 0 t10)] 11) : MachB o mem hp cpu ld out gv limit
inductive CpuB (o : Obj) (mem rg : Addr) (pc : Int) (rows : Addr) : Prop where
  | mk (x0 : _) (y0 : _) (x1 : _) (y1 : _) (x2 : _) (y2 : _) (t2 : _) (x3 : _) (y3 : _) (t3 : _) (x4 : _) (y4 : _) (t4 : _) (x5 : _) (y5 : _) (t5 : _) (x6 : _) (y6 : _) (t6 : _) (x7 : _) (y7 : _) (t7 : _) (x8 : _) (y8 : _) (e0 : o = dictOf [ent "memory" x0 y0 (.ref mem), ent "regs" x1 y1 (.ref rg), ent "h" x2 y2 (.int 0 t2), ent "n" x3 y3 (.int 0 t3), ent "z" x4 y4 (.int 0 t4),     ent "c" x5 y5 (.int 0 t5), ent "v" x6 y6 (.int 0 t6), ent "pc" x7 y7 (.int pc t7), ent "rows" x8 y8 (.ref rows)] 9) : CpuB o mem rg pc rows
inductive MemB (o : Obj) (sz : Int) (wd : Addr) : Prop where
  | mk (x0 : _) (y0 : _) (t0 : _) (x1 : _) (y1 : _) (e0 : o = dictOf [ent "size" x0 y0 (.int sz t0), ent "words" x1 y1 (.ref wd)] 2) : MemB o sz wd
inductive LoadB (o : Obj) (b : Int) (ob : Addr) : Prop where
  | mk (x0 : _) (y0 : _) (v0 : _) (x1 : _) (y1 : _) (v1 : _) (x2 : _) (y2 : _) (t2 : _) (x3 : _) (y3 : _) (v3 : _) (x4 : _) (y4 : _) (x5 : _) (y5 : _) (v5 : _) (e0 : o = dictOf [ent "name" x0 y0 v0, ent "key" x1 y1 v1, ent "code_base" x2 y2 (.int b t2), ent "data_base" x3 y3 v3, ent "object" x4 y4 (.ref ob), ent "clients" x5 y5 v5] 6) : LoadB o b ob
inductive ObjB (o : Obj) (rw mp : Addr) : Prop where
  | mk (x0 : _) (y0 : _) (v0 : _) (x1 : _) (y1 : _) (v1 : _) (x2 : _) (y2 : _) (v2 : _) (x3 : _) (y3 : _) (x4 : _) (y4 : _) (v4 : _) (x5 : _) (y5 : _) (v5 : _) (x6 : _) (y6 : _) (v6 : _) (x7 : _) (y7 : _) (v7 : _) (x8 : _) (y8 : _) (v8 : _) (x9 : _) (y9 : _) (v9 : _) (x10 : _) (y10 : _) (x11 : _) (y11 : _) (v11 : _) (x12 : _) (y12 : _) (v12 : _) (e0 : o = dictOf [ent "name" x0 y0 v0, ent "key" x1 y1 v1, ent "imports" x2 y2 v2, ent "rows" x3 y3 (.ref rw), ent "data_size" x4 y4 v4,     ent "words" x5 y5 v5, ent "data_fixups" x6 y6 v6, ent "fixups" x7 y7 v7, ent "entries" x8 y8 v8, ent "pointers" x9 y9 v9, ent "maps" x10 y10 (.ref mp), ent "commands" x11 y11 v11, ent "body" x12 y12 v12] 13) : ObjB o rw mp
section
variable {prog : Program} {w : World} {A : Around} {E : Value → Shared → Prop} {s : Shared} {h₀ : Heap} {L d : Addr} {m : Str → Option Value} {news : List (Addr × Obj)} {o : Obj} {kvs : List (Int × Value)}
theorem dict_method {pl : Sem Bool} {Q : Value × List Value → Shared → Prop} (N : News h₀ L s.heap news) (hm : (d, o) ∈ news) (hd : o.IsDictOf (intKind prog w) kvs) (h : Q (.builtin "dict.get", [.ref d]) s) :
    wpAny (model prog w) A (getMethod (.ref d) "get" pl) Q E s := by
  have D : s.heap.DictOf (intKind prog w) d kvs := Heap.dictOf_iff.mpr ⟨o, N.get hm, hd⟩
  exact getMethod_builtin D.typeIs PySem.F.plainAttrs_dict PySem.F.slot_dict_get PySem.F.type_dict_get D.mapOf.noDict h
theorem dict_get {i : Int} {t : Tok} {dv v : Value} {Q : Value → Shared → Prop} (N : News h₀ L s.heap news) (hm : (d, o) ∈ news) (hd : o.IsDictOf (intKind prog w) kvs) (lo : (d == sysModules) = false) (hv : valueAt kvs i = some v)
    (h : Q v { s with toks := s.toks + 1 }) : wpAny (model prog w) A (call (.builtin "dict.get") [.ref d, .int i t, dv]) Q E s := by
  have D : s.heap.DictOf (intKind prog w) d kvs := Heap.dictOf_iff.mpr ⟨o, N.get hm, hd⟩
  refine call_meetsIn PySem.F.slot_dict_get D.typeIs PySem.F.entry_dict_get (PySem.F.args_dict_get_3 _ _ _) (meets_dict_get_default (intKind prog w) d (intKind_is prog w i t) lo _) ⟨_, D.mapOf, ?_⟩
  rw [hv, Option.getD_some]
  exact h
end
end
open PySem PySem.W PySem.Calls PyProof.Rows PyProof.V
local macro_rules | `(tactic| k_room) => `(tactic| ((try simp only [depth_under_make, depth_under_kw, depth_in1, depth_deeper, depth_caller]); (first | decide | (simp only [recursionLimit]; omega))))
local macro_rules | `(tactic| k_mem) => `(tactic| assumption)
local macro_rules | `(tactic| k_get) => `(tactic| assumption)
local macro_rules | `(tactic| k_all) => `(tactic| assumption)
local macro_rules | `(tactic| k_enter) => `(tactic|
   (refine' code_def ?k1 ?k2 ?k3 ?k4 ?k5 ?kA ?kF ?kK ?k6 ?k7 ?k8 ?k9 ?kB ?_ ?c2 ?c3 ?c4 ?c5; (case kA => exact rfl); (case kF => first | exact rfl | assumption); (case kK => first | exact rfl | assumption); (case k1 => k_asm); (case k2 => k_asm); (case k3 => k_asm); (case k4 => k_asm); (case k5 => k_asm); (case k6 => k_is); (case k7 => k_is); (case k8 => k_room); (case k9 => first | exact BindsTo.of_eq (binds := [(_, _)]) rfl | exact BindsTo.of_eq (binds := [(_, _), (_, _)]) rfl | exact BindsTo.of_eq (binds := [(_, _), (_, _), (_, _)]) rfl | exact BindsTo.of_eq (binds := [(_, _), (_, _), (_, _), (_, _)]) rfl | exact BindsTo.of_eq (binds := [(_, _), (_, _), (_, _), (_, _), (_, _)]) rfl | exact BindsTo.of_eq (binds := [(_, _), (_, _), (_, _), (_, _), (_, _), (_, _)]) rfl | exact BindsTo.of_eq rfl | first | exact binds_K (binds := [(_, _), (_, _), (_, _), (_, _), (_, _)]) (by k_in) rfl (by k_is) rfl rfl rfl | exact binds_K (binds := [(_, _), (_, _), (_, _)]) (by k_in) rfl (by k_is) rfl rfl rfl | exact binds_K (binds := [(_, _), (_, _), (_, _), (_, _), (_, _), (_, _)]) (by k_in) rfl (by k_is) rfl rfl rfl | exact binds_K (binds := [(_, _), (_, _)]) (by k_in) rfl (by k_is) rfl rfl rfl | exact binds_K (binds := [(_, _), (_, _), (_, _), (_, _)]) (by k_in) rfl (by k_is) rfl rfl rfl | exact binds_K (by k_in) rfl (by k_is) rfl rfl rfl); (case c5 => decide); (case kB => exact locs rfl); (case c2 => exact rfl); (case c3 => exact rfl); (case c4 => exact rfl); k_whole; intro g' L' h' FG' F' N' B' X' T'; (try dsimp only [List.length_cons, List.length_nil]); (try k_lift B'); (try k_fold)))
local macro_rules | `(tactic| walk_at "call builtin:len") => `(tactic| (k_here; (with_reducible show wpAny _ _ (call (Value.builtin "len") [Value.ref _]) _ _ _); k_dflt (refine' len_lis ?N ?m ?z ?_; (case N => k_asm); (case m => k_mem); (case z => first | with_reducible assumption | omega); k_whole)))
local macro_rules | `(tactic| walk_at "subscriptTail") => `(tactic| (k_here; (with_reducible show wpAny _ _ (subscriptTail _ _ (Value.ref _) (Value.int _ _)) _ _ _); k_dflt (refine' sub_lis ?N ?m ?z ?l ?v ?_; (case N => k_asm); (case m => k_mem); (case z => first | with_reducible assumption | omega); (case l => omega); (case v => with_reducible assumption); k_whole)))
local macro_rules | `(tactic| walk_at "getItem ref int") => `(tactic| (k_here; k_dflt (refine' get_lis ?N ?m ?z ?l ?v ?_; (case N => k_asm); (case m => k_mem); (case z => first | with_reducible assumption | omega); (case l => omega); (case v => with_reducible assumption); k_whole)))
local macro_rules | `(tactic| walk_at "getMethod ref") => `(tactic| (k_here; (with_reducible show wpAny _ _ (getMethod _ "index" _) _ _ _); k_dflt (refine' tup_meth_index ?N ?m ?_; (case N => k_asm); (case m => k_mem); k_whole)))
local macro_rules | `(tactic| walk_at "call builtin:tuple.index") => `(tactic| (k_here; k_dflt (refine' tup_index_L ?N ?m ?x ?_; (case N => k_asm); (case m => k_mem); (case x => exact rfl); k_whole)))
local macro_rules | `(tactic| walk_at "compareOp Eq int int") => `(tactic| (k_here; (with_reducible show wpAny _ _ (compareOp CmpOp.Eq (Value.int _ _) (Value.int _ _)) _ _ _); (first | refine eq_int_ne (by omega) ?_ | refine eq_int_eq (by omega) ?_)))
local macro_rules | `(tactic| k_lt $h:ident) => `(tactic| ((have kLt9 := $h); (replace $h := allLt_of $h; simp only [AllLt, and_true] at $h:ident)))
local macro_rules | `(tactic| k_all) => `(tactic| (refine' ne_of_lts ?zh ?zs; (case zh => with_reducible assumption); (case zs => (intro p9 hp9; (repeat first | exact hp9 | refine List.Mem.tail _ ?_)))))
local macro_rules | `(tactic| units_room) => `(tactic| ((simp only [units_under_make, units_in1, units_deeper, Around.mark_units, units_caller, cLine]); (try dsimp only); omega))
local macro_rules | `(tactic| walk_at "exec For Name Subscript cons nil") => `(tactic| (k_here; (rename Fr _ _ _ _ => lF'); (with_unfolding_all refine' For_invVF lF' ?k1 ?k2 ?_; (case k1 => exact rfl); (case k2 => exact rfl); k_whole)))
local macro_rules | `(tactic| walk_at "exec For Name Name cons nil") => `(tactic| (k_here; (rename Fr _ _ _ _ => lF'); (with_unfolding_all refine' For_invVF lF' ?k1 ?k2 ?_; (case k1 => exact rfl); (case k2 => exact rfl); k_whole)))
local macro_rules | `(tactic| walk_at "call builtin:list.append") => `(tactic| (k_here; k_dflt (refine' app_lis ?F ?N ?U ?z ?_; (case F => k_asm); (case N => k_asm); (case U => k_upd); (case z => first | with_reducible assumption | (simp only [List.length_append, List.length_cons, List.length_nil]; omega)); k_whole; intro h' F' N'; (try k_sweep))))
local macro_rules | `(tactic| walk_at "call builtin:list.reverse") => `(tactic| (k_here; k_dflt (refine' rev_lis ?F ?N ?U ?z ?_; (case F => k_asm); (case N => k_asm); (case U => k_upd); (case z => first | with_reducible assumption | omega); k_whole; intro h' F' N'; (try k_sweep))))
local macro_rules | `(tactic| walk_at "exec If") => `(tactic| refine wpAny_If ?_)
local macro_rules | `(tactic| k_steps) => `(tactic| repeat' (first | (k_unfold; (try dsimp only)) | (k_end; wrow_close) | (walk1; all_goals ((first | (with_reducible show wpAny _ _ (subscriptTail _ (Expr.Slice _ _ _ _) _ _) _ _ _) | (with_reducible show wpAny _ _ (evalPart _ _) _ _ _) | (with_reducible show wpAny _ _ (evalPart _ _ >>= _) _ _ _) | (with_reducible show wpAny _ _ (Sem.alloc _ _) _ _ _) | (try dsimp only)); (try ((with_reducible rename News _ _ _ _ => zN); (dsimp only at zN))))) | (dsimp only; walk1) | (leave1; walk_say "STEP leave1"; try dsimp only) | fail "no step"))
local macro_rules | `(tactic| k_ne) => `(tactic| ((refine neN ?_); (try dsimp only); first | with_reducible assumption | (refine' ne_of_gt9 ?zh ?zm; (case zh => with_reducible assumption); (case zm => k_mem)) | (refine' ne_of_lt9 ?zh ?zm; (case zh => with_reducible assumption); (case zm => k_mem)) | exact Nat.ne_of_gt (by with_reducible assumption) | exact Nat.ne_of_lt (by with_reducible assumption) | omega))
section
open PySem PySem.W PyProof.Rows
theorem rst_5 {M : Model} {A : Around} {Q : Unit → Shared → Prop} {E : Value → Shared → Prop} {s : Shared} (h : Q () s) : wpAny M A (Sem.pure ()) Q E s := by
  w_top off
  first | walk1 | exact wpAny_pure h
end
section
open PySem PySem.W PySem.Calls PyProof.Rows PyProof.V
theorem fill_B4 : MineH.K = MineH.K ∧ PySem.Challenge.rw_pb0376_02 = PySem.Challenge.rw_pb0376_02 := by k_fill; exact ⟨rfl, rfl⟩
section
variable {prog : Program} {w : World} {A : Around} {E : Value → Shared → Prop} {s : Shared} {h₀ : Heap} {L D : Addr} {m : Str → Option Value} {news news' : List (Addr × Obj)} {vs : List Value} {n : Nat} {k : Int} {t : Tok} {x : Value}
theorem set_lis {Q : Unit → Shared → Prop} (F : Fr h₀ L s.heap m) (N : News h₀ L s.heap news) (U : Upd D (lisOf vs n) (lisOf (vs.set k.toNat x) n) news news') (h0 : 0 ≤ k) (h1 : k < vs.length) (hz : vs.length ≤ 100000)
    (h : ∀ h', Fr h₀ L h' m → News h₀ L h' news' → Q () { s with heap := h' }) : wpAny (model prog w) A (setItem (.ref D) (.int k t) x) Q E s := by
  obtain ⟨pre, post, rfl, rfl, a, b⟩ := U.split
  have z := N (D, listOf vs.toArray n) (List.mem_append.mpr (.inr (.head _)))
  have hs : vs.toArray.size = vs.length := by simp
  refine ki_setAt z.1 h0 (by omega) (by omega) (h _ (F.change (Heap.SameBut.update ..) z.2.1 z.2.2) (ki_turn _ N a b ?_ ?_))
  · show vs.toArray.setIfInBounds k.toNat x = (vs.set k.toNat x).toArray
    apply Array.toList_inj.mp
    simp
  · simp
theorem pop0_lis {r : List Value} {u : Tok} {y : Value} {Q : Value → Shared → Prop} (F : Fr h₀ L s.heap m) (N : News h₀ L s.heap news) (U : Upd D (lisOf (y :: r) n) (lisOf r (n + 1)) news news') (hz : (y :: r).length ≤ 100000)
    (h : ∀ h', Fr h₀ L h' m → News h₀ L h' news' → Q y { s with heap := h' }) : wpAny (model prog w) A (call (.builtin "list.pop") [.ref D, .int 0 u]) Q E s := by
  refine kl_popAt (k := 0) (p := []) (q := r) (y := y) F N rfl ?_ rfl U (by rw [sizeLine_eq]; simp at hz ⊢; omega) h
  simp [seqIndex?]
/-- two objects changed by a call that may touch these alone -/
theorem news_two {g h h' : Heap} {L' a b : Addr} {oa ob oa' ob' : Obj} (N : News h₀ L h ((a, oa) :: (b, ob) :: news)) (K2 : News g L' h' [(a, oa'), (b, ob')])
    (HG : ∀ c o, h.get? c = some o → c ∉ [a, b] → g.get? c = some o) (K : ∀ c o, g.get? c = some o → h'.get? c = some o) (ha : ∀ p ∈ news, p.1 ≠ a) (hb : ∀ p ∈ news, p.1 ≠ b) :
    News h₀ L h' ((a, oa') :: (b, ob') :: news) := by
  intro p hp
  rcases List.mem_cons.mp hp with rfl | hp
  · exact ⟨(K2 _ (.head _)).1, (N _ (.head _)).2⟩
  rcases List.mem_cons.mp hp with rfl | hp
  · exact ⟨(K2 _ (.tail _ (.head _))).1, (N _ (.tail _ (.head _))).2⟩
  · have P := N p (.tail _ (.tail _ hp))
    exact ⟨K _ _ (HG _ _ P.1 (by simp [ha p hp, hb p hp])), P.2⟩
end
local macro_rules | `(tactic| walk_at "setItem ref int") => `(tactic| (k_here; k_dflt (refine' set_lis ?F ?N ?U ?h0 ?h1 ?hz ?_; (case F => k_asm); (case N => k_asm); (case U => k_upd); (case h0 => decide); (case h1 => (simp only [List.length_cons, List.length_nil]; decide)); (case hz => (simp only [List.length_cons, List.length_nil]; decide)); k_whole; intro h' F' N'; (try dsimp only [Int.toNat, List.set] at N'))))
local macro_rules | `(tactic| walk_at "compareOp NotEq ref ref") => `(tactic| refine held ?_)
local macro_rules | `(tactic| walk_at "call builtin:list.pop") => `(tactic| (k_here; k_dflt (refine' pop0_lis ?F ?N ?U ?z ?_; (case F => k_asm); (case N => k_asm); (case U => k_upd); (case z => exact Nat.le_trans (by with_reducible assumption) (by decide)); k_whole; intro h' F' N')))
local macro_rules | `(tactic| k_ne) => `(tactic| ((refine neN ?_); (try dsimp only); first | with_reducible assumption | exact Nat.ne_of_lt (by with_reducible assumption) | exact Nat.ne_of_gt (by with_reducible assumption)))
section
variable {w : World} {A₀ : Around} {base h₀ : Heap} {outer : List Env} {env : Env} {L : Addr} {m mg mb : Str → Option Value} {mean : ExcName → Option Value} {s : Shared} {R : Result → Shared → Prop}
  {d u : Nat} {gs : Option (List Code)} {src lst : Addr} {vs : List Value} {ns : List Int} {a b most : Int} {ta tb tm : Tok} {n1 n2 : Nat} {news : List (Addr × Obj)}
theorem take_ok (C : Cb w A₀ base h₀ outer env L m mg mb mean s.heap) (hdp : d < 700) (hu : u ≤ 3000) (N : News h₀ L s.heap ((src, lisOf [.ref lst, .int a ta, .int b tb] n1) :: (lst, lisOf vs n2) :: news)) (hi : IntsAre vs ns) (hl : vs.length ≤ 1000)
  (ha : 0 ≤ a) (hb : 0 ≤ b) (hm : 0 < most) (hm9 : most < 1000) (hne : @LT.lt Nat _ lst src) (hs : ∀ p ∈ news, p.1 ≠ src) (hls : ∀ p ∈ news, p.1 ≠ lst)
  (k : ∀ h' tk vs' ns' a' b' ta' tb' n1' n2' x t, Fr h₀ L h' m → News h₀ L h' ((src, lisOf [.ref lst, .int a' ta', .int b' tb'] n1') :: (lst, lisOf vs' n2') :: news) → IntsAre vs' ns' → vs'.length ≤ 1000 → 0 ≤ a' → 0 ≤ b' → 0 ≤ x → x < most → R (.ok (.ret (.int x t))) { s with heap := h', toks := tk }) :
  codeAny (model P2 w) (mkA none d env outer gs u) (.call (.ref 425) ⟨[.ref src, .int most tm], []⟩) R s := by
  obtain ⟨B, F, X, T, hf, hke⟩ := C
  refine' call_frame (touched := [(src, lisOf [.ref lst, .int a ta, .int b tb] n1), (lst, lisOf vs n2)]) B F X (News.sub N ?hs) T rfl hf hke ?k6 ?k7 ?k8 ?k9 ?kB ?_ ?c2 ?c3 ?c4 ?c5
  (case hs => simp only [List.forall_mem_cons]; exact ⟨.head _, .tail _ (.head _), fun _ h => nomatch h⟩)
  (case k6 => k_is)
  (case k7 => k_is)
  (case k8 => k_room)
  (case k9 => exact BindsTo.of_eq (binds := [(_, _), (_, _)]) rfl)
  (case c5 => decide)
  (case kB => exact locs rfl)
  (case c2 => exact rfl)
  (case c3 => exact rfl)
  (case c4 => exact rfl)
  intro g' L' h' FG' F' N' B' X' T' HG
  (try dsimp only)
  (try k_lift B')
  (try k_fold)
  k_steps
  · refine Held.of ?_
    (rename News _ _ _ _ => N1)
    cases hi with
    | nil =>
      refine ne_intsK (News.isList N1 (.tail _ (.tail _ (.head _)))) .nil (News.isList N1 (.head _)) .nil (by units_room) ?_
      k_steps
      (rename Fr h₀ L _ _ => kF); (rename News g' _ _ _ => kN); (rename Fr g' _ _ _ => F9)
      refine k _ _ _ _ _ _ _ _ _ _ _ _ kF (news_two N (News.sub kN fun p hp => by (repeat first | exact hp | refine List.Mem.tail _ ?_)) HG F9.keep hs hls) (by first | exact .nil | with_reducible assumption) ?_ ?_ ?_ ?_ ?_
      · first | exact hl | exact Nat.le_of_succ_le hl
      · exact Int.fdiv_nonneg (by first | assumption | omega | exact Int.fdiv_nonneg (Int.fmod_nonneg_of_pos _ (by decide)) (by decide)) (Int.le_of_lt hm)
      · first | exact hb | exact Int.fmod_nonneg_of_pos _ (by decide)
      · exact Int.fmod_nonneg_of_pos _ hm
      · exact Int.fmod_lt_of_pos _ hm
    | cons x t hi =>
      refine ne_intsK (News.isList N1 (.tail _ (.tail _ (.head _)))) (.cons x t hi) (News.isList N1 (.head _)) .nil (by units_room) ?_
      rw [show (!decide (x :: _ = ([] : List Int))) = true from rfl]
      k_steps
      all_goals
        (rename Fr h₀ L _ _ => kF); (rename News g' _ _ _ => kN); (rename Fr g' _ _ _ => F9)
        refine k _ _ _ _ _ _ _ _ _ _ _ _ kF (news_two N (News.sub kN fun p hp => by (repeat first | exact hp | refine List.Mem.tail _ ?_)) HG F9.keep hs hls) (by first | exact .nil | with_reducible assumption) ?_ ?_ ?_ ?_ ?_
        · first | exact hl | exact Nat.le_of_succ_le hl
        · exact Int.fdiv_nonneg (by first | assumption | omega | exact Int.fdiv_nonneg (Int.fmod_nonneg_of_pos _ (by decide)) (by decide)) (Int.le_of_lt hm)
        · first | exact hb | exact Int.fmod_nonneg_of_pos _ (by decide)
        · exact Int.fmod_nonneg_of_pos _ hm
        · exact Int.fmod_lt_of_pos _ hm
  · (rename Fr h₀ L _ _ => kF); (rename News g' _ _ _ => kN); (rename Fr g' _ _ _ => F9)
    refine k _ _ _ _ _ _ _ _ _ _ _ _ kF (news_two N (News.sub kN fun p hp => by (repeat first | exact hp | refine List.Mem.tail _ ?_)) HG F9.keep hs hls) (by first | exact .nil | with_reducible assumption) ?_ ?_ ?_ ?_ ?_
    · first | exact hl | exact Nat.le_of_succ_le hl
    · exact Int.fdiv_nonneg (by first | assumption | omega | exact Int.fdiv_nonneg (Int.fmod_nonneg_of_pos _ (by decide)) (by decide)) (Int.le_of_lt hm)
    · first | exact hb | exact Int.fmod_nonneg_of_pos _ (by decide)
    · exact Int.fmod_nonneg_of_pos _ hm
    · exact Int.fmod_lt_of_pos _ hm
end
end
section
open PySem PySem.W PyProof.Rows
theorem rst_6 {M : Model} {A : Around} {Q : Unit → Shared → Prop} {E : Value → Shared → Prop} {s : Shared} (h : Q () s) : wpAny M A (Sem.pure ()) Q E s := by
  w_top off
  first | walk1 | exact wpAny_pure h
end
section
open PySem PySem.W PySem.Calls PyProof.Rows PyProof.V PySem.Spec
section
variable {prog : Program} {w : World} {A : Around} {E : Value → Shared → Prop} {s : Shared} {h₀ : Heap} {L : Addr} {m : Str → Option Value} {news : List (Addr × Obj)}
theorem flat_rep (v : Value) : ∀ k : Nat, (List.replicate k [v]).flatten = List.replicate k v
  | 0 => rfl
  | k + 1 => by rw [List.replicate_succ, List.flatten_cons, flat_rep v k, List.replicate_succ]; rfl
theorem range_one {n : Nat} {t : Tok} {Q : Value → Shared → Prop} (F : Fr h₀ L s.heap m) (N : News h₀ L s.heap news)
    (h : ∀ r o h' t1 t2, Fr h₀ L h' m → News h₀ L h' ((r, o) :: news) → IsRange h' r 0 (n : Int) 1 t1 t t2 → (∀ p ∈ news, p.1 < r) → Q (.ref r) { s with heap := h', toks := s.toks + 1 + 1 }) :
    wpAny (model prog w) A (call (.type "range") [.int (n : Int) t]) Q E s :=
  call_range_1 (h _ _ _ _ _ (F.push _) (N.push F _) (Heap.get?_push_size _ rfl) fun p hp => Heap.lt_size (N p hp).1)
theorem mul_one {l : Addr} {v : Value} {n : Nat} {x : Int} {u : Tok} {Q : Value → Shared → Prop} (F : Fr h₀ L s.heap m) (N : News h₀ L s.heap news) (h1 : (l, lisOf [v] n) ∈ news) (h0 : 0 ≤ x) (h9 : x ≤ 1000)
    (h : ∀ D h', Fr h₀ L h' m → News h₀ L h' ((D, lisOf (List.replicate x.toNat v) 0) :: news) → (∀ p ∈ news, p.1 < D) → Q (.ref D) { s with heap := h' }) : wpAny (model prog w) A (binaryOp .Mult (.ref l) (.int x u)) Q E s := by
  obtain ⟨⟨cls, d, data, sl⟩, ho, hcl, k, hd⟩ := News.isList N h1
  simp only at hcl hd
  subst hcl hd
  refine wpAny_binaryOp_repeat_ref (T := "list") (U := "int") (by decide) ⟨_, ho, rfl⟩ (fun s' => typeIs_int s' x u) noFill_list_mul PySem.F.fills_int_mul PySem.F.slot_int_rmul repeat_list PySem.F.slot_int_index.lookup
    (call_meets PySem.F.slot_int_rmul (typeIs_int s x u) PySem.F.entry_int_rmul (PySem.F.args_int_rmul_2 _ _) (lm_int_rmul_list_any x u l [v].toArray k d sl)
      ⟨ho, rfl, ⟨_, ho, rfl⟩, call_meets PySem.F.slot_list_mul ⟨_, ho, rfl⟩ PySem.F.entry_list_mul (PySem.F.args_list_mul_2 _ _)
        (lm_list_mul_any l [v].toArray k d sl x u (by simp [Builtin.List.listFitsIndex]; omega) (by simp only [List.size_toArray, List.length_cons, List.length_nil]; omega) (by simp [Builtin.List.listTooLong, sizeLine]; omega))
        ⟨ho, ?_⟩⟩)
  have N' := News.push F N { cls := Value.type "list", data := Data.seq (List.foldl (fun x1 x2 => x1 ++ x2) #[] (List.replicate (if [v].toArray.isEmpty = true then 0 else x.toNat) [v].toArray)) }
  rw [listMul_foldl_if, flat_rep] at N'
  rw [listMul_foldl_if, flat_rep]
  exact h _ _ (F.push _) N' fun p hp => Heap.lt_size (N p hp).1
end
section
variable {prog : Program} {w : World} {A : Around} {E : Value → Shared → Prop} {s : Shared} {h₀ : Heap} {L : Addr} {m : Str → Option Value} {env : Env}
open PyProof.Rows.LCg PyProof.Rows.LCt
theorem compEnd_mono {I C D : Addr} {oI oC oD : Obj} {S : List (Addr × Obj) → Prop} {r r' : Value → List (Addr × Obj) → Prop} {y : Value} {s₂ : Shared} (h : CompEnd h₀ L m s I oI C oC D oD S r y s₂) (k : ∀ y n, r y n → r' y n) : CompEnd h₀ L m s I oI C oC D oD S r' y s₂ := by
  obtain ⟨h', tk, n, a, b, c, d, e, f⟩ := h
  exact ⟨h', tk, n, a, b, c, d, e, k _ _ f⟩
/-- a comprehension by what holds of the items made so far and the ledger -/
theorem comp_J {elt : Expr} {x : Str} {scope : Scope} {cl : List (Str × Addr)} {S : List (Addr × Obj) → Prop} {P : Nat → Value → Prop} {Fin : List Value → List (Addr × Obj) → Prop} {n : Nat} (J : Nat → List Value → List (Addr × Obj) → Prop)
    (turn : ∀ i ys news v I oI C oC D m₂ h tk (E' : Value → Shared → Prop), i < n → J i ys news → P i v → NsObj oC m₂ → m₂ x = some v → Fr h₀ L h m → News h₀ L h ((I, oI) :: (C, oC) :: (D, lst ys) :: news) → (∀ p ∈ news, p.1 ≠ I ∧ p.1 ≠ C ∧ p.1 ≠ D) → (@Ne Nat I C) ∧ (@Ne Nat I D) ∧ (@Ne Nat C D) →
      wpAny (model prog w) A (eval elt (compEnvC scope cl C env)) (CompEnd h₀ L m { s with heap := h, toks := tk } I oI C oC D (lst ys) S (fun y news' => J (i + 1) (ys ++ [y]) news')) E' { s with heap := h, toks := tk })
    (done : ∀ ys news, J n ys news → Fin ys news) : ∀ k i ys news, i + k = n → J i ys news → CompRest prog w A h₀ L m env elt x scope cl s S P Fin k i ys news
  | 0, i, ys, news, hi, hj => CompRest.zero (done ys news ((show i = n by omega) ▸ hj))
  | k + 1, i, ys, news, hi, hj => CompRest.succ fun v I oI C oC D m₂ h tk E' hP hC hx F N off ne =>
    wpAny_mono (turn i ys news v I oI C oC D m₂ h tk E' (by omega) hj hP hC hx F N off.mem ne) (fun _ _ e => compEnd_mono e fun y n hn => comp_J J turn done k (i + 1) (ys ++ [y]) n (by omega) hn) fun _ _ e => e
/-- the same with a test -/
theorem comp_JT {ct elt : Expr} {x : Str} {scope : Scope} {cl : List (Str × Addr)} {S : List (Addr × Obj) → Prop} {P : Nat → Value → Prop} {Fin : List Value → List (Addr × Obj) → Prop} {n : Nat} (J : Nat → List Value → List (Addr × Obj) → Prop)
    (turn : ∀ i ys news v I oI C oC D m₂ h tk (E' : Value → Shared → Prop), i < n → J i ys news → P i v → NsObj oC m₂ → m₂ x = some v → Fr h₀ L h m → News h₀ L h ((I, oI) :: (C, oC) :: (D, lst ys) :: news) → (∀ p ∈ news, p.1 ≠ I ∧ p.1 ≠ C ∧ p.1 ≠ D) → (@Ne Nat I C) ∧ (@Ne Nat I D) ∧ (@Ne Nat C D) →
      wpAny (model prog w) A (isTrue ct (compEnvC scope cl C env) (eval ct (compEnvC scope cl C env))) (fun ok s' => if ok = true then
        wpAny (model prog w) A (eval elt (compEnvC scope cl C env)) (CompEnd h₀ L m { s with heap := h, toks := tk } I oI C oC D (lst ys) S (fun y news' => J (i + 1) (ys ++ [y]) news')) E' s'
        else CompEnd h₀ L m { s with heap := h, toks := tk } I oI C oC D (lst ys) S (fun _ news' => J (i + 1) ys news') Value.none s') E' { s with heap := h, toks := tk })
    (done : ∀ ys news, J n ys news → Fin ys news) : ∀ k i ys news, i + k = n → J i ys news → CompRestT prog w A h₀ L m env ct elt x scope cl s S P Fin k i ys news
  | 0, i, ys, news, hi, hj => CompRestT.zero (done ys news ((show i = n by omega) ▸ hj))
  | k + 1, i, ys, news, hi, hj => CompRestT.succ fun v I oI C oC D m₂ h tk E' hP hC hx F N off ne => by
    refine wpAny_mono (turn i ys news v I oI C oC D m₂ h tk E' (by omega) hj hP hC hx F N off.mem ne) (fun ok s' e => ?_) fun _ _ e => e
    split
    · rename_i h
      rw [if_pos h] at e
      exact wpAny_mono e (fun _ _ e => compEnd_mono e fun y n hn => comp_JT J turn done k (i + 1) (ys ++ [y]) n (by omega) hn) fun _ _ e => e
    · rename_i h
      rw [if_neg h] at e
      exact compEnd_mono e fun y n hn => comp_JT J turn done k (i + 1) ys n (by omega) hn
/-- the end of a turn by membership -/
theorem compEnd_of {I C D : Addr} {oI oC oD : Obj} {S : List (Addr × Obj) → Prop} {r : Value → List (Addr × Obj) → Prop} {y : Value} {h' : Heap} {tk : Nat} {all news' : List (Addr × Obj)} (F : Fr h₀ L h' m) (N : News h₀ L h' all)
    (hI : (I, oI) ∈ all) (hC : (C, oC) ∈ all) (hD : (D, oD) ∈ all) (sub : ∀ p ∈ news', p ∈ all) (off : ∀ p ∈ news', p.1 ≠ I ∧ p.1 ≠ C ∧ p.1 ≠ D) (hS : S news') (hr : r y news') : CompEnd h₀ L m s I oI C oC D oD S r y { s with heap := h', toks := tk } :=
  CompEnd.intro F N news' (fun p hp => by
    rcases List.mem_cons.mp hp with rfl | hp
    · exact hI
    rcases List.mem_cons.mp hp with rfl | hp
    · exact hC
    rcases List.mem_cons.mp hp with rfl | hp
    · exact hD
    exact sub p hp) (Off3.of off) hS hr
end
section
variable {prog : Program} {w : World} {A : Around} {E : Value → Shared → Prop} {s : Shared} {env : Env} {h₀ : Heap} {x : Str} {body : List Stmt} {Q : Flow → Shared → Prop}
/-- a loop over a range by an invariant; what stands in the ledger is never the iterator -/
theorem rangeRest_O {I : Addr} {a : Int} {n : Nat} (J : Nat → (Str → Option Value) → List (Addr × Obj) → Prop)
    (turn : ∀ i m l t h tk, i < n → J i m l → (∀ p ∈ l, p.1 ≠ I) → Fr h₀ env.locals h (fun y => if y = x then some (.int (a + (i : Int)) t) else m y) → News h₀ env.locals h ((I, itR (a + ((i + 1 : Nat) : Int)) ((n : Int) - ((i + 1 : Nat) : Int))) :: l) →
      wpAny (model prog w) A (execs body env) (UnrPost h₀ env.locals { s with heap := h, toks := tk } I (itR (a + ((i + 1 : Nat) : Int)) ((n : Int) - ((i + 1 : Nat) : Int))) (fun m' l' => J (i + 1) m' l') Q) E { s with heap := h, toks := tk })
    (done : ∀ m l h tk, J n m l → Fr h₀ env.locals h m → News h₀ env.locals h l → Q .next { s with heap := h, toks := tk }) :
    ∀ k i m l, i + k = n → J i m l → (∀ p ∈ l, p.1 ≠ I) → RangeRest prog w A E h₀ env x body Q s I a n k i m l
  | 0, i, m, l, hi, hj, _ => RangeRest.zero fun h tk F N => done m l h tk ((show i = n by omega) ▸ hj) F N
  | k + 1, i, m, l, hi, hj, ho => RangeRest.succ fun t h tk F N => by
    refine wpAny_mono (turn i m l t h tk (by omega) hj ho F N) (fun f s₂ p => ?_) fun _ _ e => e
    have up : UnrEnd h₀ env.locals { s with heap := h, toks := tk } I (itR (a + ((i + 1 : Nat) : Int)) ((n : Int) - ((i + 1 : Nat) : Int))) (fun m' l' => J (i + 1) m' l') s₂ →
        UnrEnd h₀ env.locals { s with heap := h, toks := tk } I (itR (a + ((i + 1 : Nat) : Int)) ((n : Int) - ((i + 1 : Nat) : Int))) (RangeRest prog w A E h₀ env x body Q s I a n k (i + 1)) s₂ := by
      rintro ⟨h', tk', m', n', e, F', N', off, hj'⟩
      exact ⟨h', tk', m', n', e, F', N', off, rangeRest_O J turn done k (i + 1) m' n' (by omega) hj' off⟩
    cases f with
    | ret v => exact p
    | brk => exact p
    | next => exact up p
    | cont => exact up p
theorem iter_ranO {r : Addr} {a₀ b₀ : Int} {t₀ u₀ v₀ : Tok} {n : Nat} {m₀ : Str → Option Value} {news : List (Addr × Obj)} (J : Nat → (Str → Option Value) → List (Addr × Obj) → Prop)
    (hh : A.handled = none) (hr : IsRange s.heap r a₀ b₀ 1 t₀ u₀ v₀) (hsmall : Builtin.Range.small a₀ b₀ 1 = true) (hn : Builtin.Range.rangeSize a₀ b₀ 1 = (n : Int)) (F : Fr h₀ env.locals s.heap m₀) (N : News h₀ env.locals s.heap news) (hj : J 0 m₀ news)
    (turn : ∀ I : Addr, (∀ p ∈ news, p.1 < I) → ∀ i m l t h tk, i < n → J i m l → (∀ p ∈ l, p.1 ≠ I) → Fr h₀ env.locals h (fun y => if y = x then some (.int (a₀ + (i : Int)) t) else m y) → News h₀ env.locals h ((I, itR (a₀ + ((i + 1 : Nat) : Int)) ((n : Int) - ((i + 1 : Nat) : Int))) :: l) →
      wpAny (model prog w) A (execs body env) (UnrPost h₀ env.locals { s with heap := h, toks := tk } I (itR (a₀ + ((i + 1 : Nat) : Int)) ((n : Int) - ((i + 1 : Nat) : Int))) (fun m' l' => J (i + 1) m' l') Q) E { s with heap := h, toks := tk })
    (done : ∀ m l h tk, J n m l → Fr h₀ env.locals h m → News h₀ env.locals h l → Q .next { s with heap := h, toks := tk }) :
    wpAny (model prog w) A (pyIter (.ref r)) (fun it s₂ => LoopAtV prog w A h₀ env x body Q E it s₂) E s :=
  iter_rangeUnr hh hr hsmall hn F N fun I hI => rangeRest_O J (turn I hI) done n 0 m₀ news (Nat.zero_add n) hj fun p hp => Nat.ne_of_lt (hI p hp)
end
/-- the part of a ledger off some addresses -/
noncomputable def keepA (led : List (Addr × Obj)) (as : List Nat) : List (Addr × Obj) := led.filter fun p => as.all fun (a : Nat) => !(Nat.beq p.1 a)
theorem mem_keepA {led : List (Addr × Obj)} {as : List Nat} {p : Addr × Obj} : p ∈ keepA led as ↔ p ∈ led ∧ ∀ a ∈ as, p.1 ≠ a := by
  unfold keepA
  rw [List.mem_filter, List.all_eq_true]
  refine and_congr_right fun _ => forall_congr' fun a => imp_congr_right fun _ => ?_
  rw [Bool.not_eq_true', ← Bool.not_eq_true]
  exact not_congr (by rw [Nat.beq_eq])
/-- the law's source of draws: a list of ints, the rest of a cell, the next seed -/
inductive SrcIs (lst : Addr) (o1 o2 : Obj) : Prop where
  | mk (vs : List Value) (ns : List Int) (a b : Int) (ta tb : Tok) (n1 n2 : Nat) (e1 : o1 = lisOf [.ref lst, .int a ta, .int b tb] n1) (e2 : o2 = lisOf vs n2) (hi : IntsAre vs ns) (hl : vs.length ≤ 1000) (ha : 0 ≤ a) (hb : 0 ≤ b) : SrcIs lst o1 o2
section
variable {w : World} {A₀ : Around} {base h₀ : Heap} {outer : List Env} {env : Env} {L : Addr} {m mg mb : Str → Option Value} {mean : ExcName → Option Value} {s : Shared} {R : Result → Shared → Prop}
  {d u : Nat} {gs : Option (List Code)} {src lst : Addr} {o1 o2 : Obj} {most : Int} {tm : Tok} {news : List (Addr × Obj)}
theorem take_s (C : Cb w A₀ base h₀ outer env L m mg mb mean s.heap) (hdp : d < 700) (hu : u ≤ 3000) (N : News h₀ L s.heap ((src, o1) :: (lst, o2) :: news)) (hS : SrcIs lst o1 o2)
  (hm : 0 < most) (hm9 : most < 1000) (hne : @LT.lt Nat _ lst src) (hs : ∀ p ∈ news, p.1 ≠ src) (hls : ∀ p ∈ news, p.1 ≠ lst)
  (k : ∀ h' tk o1' o2' x t, Fr h₀ L h' m → News h₀ L h' ((src, o1') :: (lst, o2') :: news) → SrcIs lst o1' o2' → 0 ≤ x → x < most → R (.ok (.ret (.int x t))) { s with heap := h', toks := tk }) :
  codeAny (model P2 w) (mkA none d env outer gs u) (.call (.ref 425) ⟨[.ref src, .int most tm], []⟩) R s := by
  obtain ⟨vs, ns, a, b, ta, tb, n1, n2, rfl, rfl, hi, hl, ha, hb⟩ := hS
  exact take_ok C hdp hu N hi hl ha hb hm hm9 hne hs hls fun h' tk vs' ns' a' b' ta' tb' n1' n2' x t F N i l a b x0 x1 => k h' tk _ _ x t F N ⟨_, _, _, _, _, _, _, _, rfl, rfl, i, l, a, b⟩ x0 x1
/-- the same upon any ledger: what else is to be kept is named -/
theorem take_m {led rest : List (Addr × Obj)} (C : Cb w A₀ base h₀ outer env L m mg mb mean s.heap) (hdp : d < 700) (hu : u ≤ 3000) (N : News h₀ L s.heap led) (h1 : (src, o1) ∈ led) (h2 : (lst, o2) ∈ led) (hS : SrcIs lst o1 o2)
  (hr : ∀ p ∈ rest, p ∈ led) (off : ∀ p ∈ rest, p.1 ≠ src ∧ p.1 ≠ lst) (hm : 0 < most) (hm9 : most < 1000) (hne : @LT.lt Nat _ lst src)
  (k : ∀ h' tk o1' o2' x t, Fr h₀ L h' m → News h₀ L h' ((src, o1') :: (lst, o2') :: rest) → SrcIs lst o1' o2' → 0 ≤ x → x < most → R (.ok (.ret (.int x t))) { s with heap := h', toks := tk }) :
  codeAny (model P2 w) (mkA none d env outer gs u) (.call (.ref 425) ⟨[.ref src, .int most tm], []⟩) R s :=
  take_s C hdp hu (news_cons N h1 (news_cons N h2 (News.sub N hr))) hS hm hm9 hne (fun p hp => (off p hp).1) (fun p hp => (off p hp).2) k
end
end
section
open PySem PySem.W PyProof.Rows
theorem rst_8 {M : Model} {A : Around} {Q : Unit → Shared → Prop} {E : Value → Shared → Prop} {s : Shared} (h : Q () s) : wpAny M A (Sem.pure ()) Q E s := by
  w_top off
  first | walk1 | exact wpAny_pure h
end
section
open PySem PySem.W PySem.Calls PyProof.Rows PyProof.V
theorem fill_HeapM : MineH.K = MineH.K ∧ PySem.Challenge.rw_pb0376_02 = PySem.Challenge.rw_pb0376_02 := by k_fill; exact ⟨rfl, rfl⟩
local macro_rules | `(tactic| walk_at "setItem ref int") => `(tactic| (k_here; (with_reducible show wpAny _ _ (setItem _ (Value.int _ _) (Value.int _ _)) _ _ _); k_dflt (refine' Words.put ?F ?N ?U ?W ?c ?_; (case F => k_asm); (case N => k_asm); (case U => k_updF); (case W => assumption); (case c => omega); k_whole; intro h' o' F' N' W'; (try dsimp only at N'); (try k_sweep))))
section
variable {w : World} {A₀ : Around} {base h₀ : Heap} {outer : List Env} {env : Env} {L : Addr} {m mg mb : Str → Option Value} {mean : ExcName → Option Value} {s : Shared} {R : Result → Shared → Prop}
  {d u : Nat} {gs : Option (List Code)} {news : List (Addr × Obj)} {t1 t2 t3 t4 : Tok} {wd mem dm : Addr} {ow omem : Obj} {f : Int → Int} {c : Nat} {a1 a2 : Int}

theorem heap_ok (C : Cb w A₀ base h₀ outer env L m mg mb mean s.heap) (hdp : d < 600) (ha1 : a1 = 128) (ha2 : a2 = 192) (N : News h₀ L s.heap ((wd, ow) :: news)) (hw : Words P2 w ow f c) (hc : c ≤ 100) (hne : ∀ p ∈ news, p.1 ≠ wd)
  (h1 : (mem, instObj 301 dm) ∈ news) (h2 : (dm, omem) ∈ news) (hmem : MemB omem 464 wd)
  (k : ∀ h' tk hp ow' f' c', Fr h₀ L h' m → News h₀ L h' ((wd, ow') :: news) → Words P2 w ow' f' c' → c' ≤ c + 10 → R (.ok (.ret (.ref hp))) { s with heap := h', toks := tk }) :
  codeAny (model P2 w) (mkA none d env outer gs u) (.call (.ref 143) ⟨[.ref mem, .int a1 t1, .int a2 t2], []⟩) R s := by
  obtain ⟨B, F, X, T, hf, hke⟩ := C
  subst ha1 ha2
  obtain ⟨m0, m1, m2, m3, m4, rfl⟩ := hmem
  refine' make_K (K := MineH.K w.params) (fI := 84) F N (X.keeps F.keep) ?k4 ?k5 ?k6 ?_
  (case k4 => k_is)
  (case k5 => k_is)
  (case k6 => k_is)
  intro x' d' h' F' N' l1 l2
  (try k_lt l1)
  (try k_lt2 l2)
  (try k_sweep)
  k_enter
  k_steps
  (rename News h₀ L _ _ => kN); (rename Fr h₀ L _ _ => kF); (rename Words _ _ _ _ _ => kW)
  exact k _ _ _ _ _ _ kF (news_cons kN (by k_mem) (News.sub kN (by (intro p9 hp9; (repeat first | exact hp9 | refine List.Mem.tail _ ?_))))) kW (by omega)
theorem heap_upd {g : Obj → List (Addr × Obj)} (C : Cb w A₀ base h₀ outer env L m mg mb mean s.heap) (hdp : d < 600) (ha1 : a1 = 128) (ha2 : a2 = 192) (N : News h₀ L s.heap news) (U : UpdF wd ow news g) (hw : Words P2 w ow f c) (hc : c ≤ 100)
  (h1 : (mem, instObj 301 dm) ∈ news) (h2 : (dm, omem) ∈ news) (hmem : MemB omem 464 wd) (e1 : @Ne Nat mem wd) (e2 : @Ne Nat dm wd)
  (k : ∀ h' tk hp ow' f' c', Fr h₀ L h' m → News h₀ L h' (g ow') → Words P2 w ow' f' c' → c' ≤ c + 10 → R (.ok (.ret (.ref hp))) { s with heap := h', toks := tk }) :
  codeAny (model P2 w) (mkA none d env outer gs u) (.call (.ref 143) ⟨[.ref mem, .int a1 t1, .int a2 t2], []⟩) R s := by
  obtain ⟨rest, p1, p2, p3, p4⟩ := upd_perm U
  exact heap_ok C hdp ha1 ha2 (News.sub N p1) hw hc p2 (p4 _ h1 e1) (p4 _ h2 e2) hmem fun h' tk hp ow' f' c' F N' W l => k h' tk hp ow' f' c' F (News.sub N' (p3 ow')) W l
end
end
section
open PySem PySem.W PyProof.Rows
theorem rst_9 {M : Model} {A : Around} {Q : Unit → Shared → Prop} {E : Value → Shared → Prop} {s : Shared} (h : Q () s) : wpAny M A (Sem.pure ()) Q E s := by
  w_top off
  first | walk1 | exact wpAny_pure h
end
section
open PySem PySem.W PyProof.Rows
theorem rst_10 {M : Model} {A : Around} {Q : Unit → Shared → Prop} {E : Value → Shared → Prop} {s : Shared} (h : Q () s) : wpAny M A (Sem.pure ()) Q E s := by
  w_top off
  first | walk1 | exact wpAny_pure h
end
section
open PySem PySem.W PySem.Calls PyProof.Rows PyProof.V
theorem fill_Mach : MineH.K = MineH.K ∧ PySem.Challenge.rw_pb0376_02 = PySem.Challenge.rw_pb0376_02 := by k_fill; exact ⟨rfl, rfl⟩
theorem lt_of_d {d x k n m : Nat} (h : d < n) (e : x = d + k) (hk : n + k ≤ m) : x < m := by omega
local macro_rules | `(tactic| walk_at "call ref") => `(tactic| (
  k_here
  (with_reducible show wpAny _ _ (call (Value.ref 143) _ _) _ _ _)
  k_dflt (refine' wpAny_call (heap_upd ?zC ?zd ?za ?zb ?zN ?zU ?zw ?zc ?z1 ?z2 ?zm ?ze ?zf ?_); (case zC => exact ⟨by k_asm, by k_asm, by k_asm, by k_asm, rfl, rfl⟩); (case za => decide); (case zb => decide); (case zN => k_asm); (case z1 => k_mem); (case z2 => k_mem); (case zm => exact ⟨_, _, _, _, _, rfl⟩); (case zU => k_updF); (case zw => exact Words.new (by assumption)); (case zd => exact lt_of_d (k := 2) (by assumption) rfl (by decide)); (case zc => decide); (case ze => (refine neN ?_; omega)); (case zf => (refine neN ?_; omega)))
  k_whole
  intro h' tk hp' ow' f' c' F' N' W' hc9
  try dsimp only at N'
  try k_sweep))
section
variable {w : World} {A₀ : Around} {base h₀ : Heap} {outer : List Env} {env : Env} {L : Addr} {m mg mb : Str → Option Value} {mean : ExcName → Option Value} {s : Shared} {R : Result → Shared → Prop}
  {d u : Nat} {gs : Option (List Code)} {news : List (Addr × Obj)} {t1 t2 t3 t4 : Tok}

theorem machine_ok (C : Cb w A₀ base h₀ outer env L m mg mb mean s.heap) (hdp : d < 500) (N : News h₀ L s.heap news)
  (k : ∀ h' tk M dM mem dm wd cpu dc rg rows ld hp out gv t9 om oc omem ow o9 n3 n4 f c rvs nr, Fr h₀ L h' m → News h₀ L h' ((ld, lisOf [] n4) :: (t9, o9) :: (rows, lisOf [.ref t9] n3) :: (rg, lisOf rvs nr) :: (cpu, instObj 245 dc) :: (dc, oc) :: (wd, ow) :: (mem, instObj 301 dm) :: (dm, omem) :: (M, instObj 393 dM) :: (dM, om) :: news) →
    MachB om mem hp cpu ld out gv 100 → CpuB oc mem rg 0 rows → MemB omem 464 wd → Words P2 w ow f c → c ≤ 100 → (wd == sysModules) = false → rvs.length = 16 → (∀ p ∈ news, p.1 < dM) →
    @LT.lt Nat _ dM M ∧ @LT.lt Nat _ M dm ∧ @LT.lt Nat _ dm mem ∧ @LT.lt Nat _ mem wd ∧ @LT.lt Nat _ wd dc ∧ @LT.lt Nat _ dc cpu ∧ @LT.lt Nat _ cpu rg ∧ @LT.lt Nat _ rg rows ∧ @LT.lt Nat _ rows t9 ∧ @LT.lt Nat _ t9 ld → R (.ok (.ret (.ref M))) { s with heap := h', toks := tk }) :
  codeAny (model P2 w) (mkA none d env outer gs u) (.call (.ref 393) ⟨[.int 64 t1, .int 256 t2, .int 100 t3, .int 64 t4], []⟩) R s := by
  obtain ⟨B, F, X, T, hf, hke⟩ := C
  refine' make_K (K := MineH.K w.params) (fI := 327) F N (X.keeps F.keep) ?k4 ?k5 ?k6 ?_
  (case k4 => k_is)
  (case k5 => k_is)
  (case k6 => k_is)
  intro x' d' h' F' N' l1 l2
  have hlow := l1
  (try k_lt l1)
  (try k_lt2 l2)
  (try k_sweep)
  k_enter
  k_steps
  (rename News h₀ L _ _ => kN); (rename Fr h₀ L _ _ => kF); (rename Words _ _ _ _ _ => kW)
  have N2 := news_cons kN (.tail _ (.tail _ (.head _))) (news_cons kN (.tail _ (.tail _ (.tail _ (.head _)))) (news_cons kN (.tail _ (.tail _ (.tail _ (.tail _ (.head _))))) (news_cons kN (.tail _ (.tail _ (.tail _ (.tail _ (.tail _ (.head _)))))) (news_cons kN (.tail _ (.tail _ (.tail _ (.tail _ (.tail _ (.tail _ (.tail _ (.head _)))))))) (news_cons kN (.tail _ (.tail _ (.tail _ (.tail _ (.tail _ (.tail _ (.tail _ (.tail _ (.head _))))))))) (news_cons kN (.tail _ (.tail _ (.tail _ (.tail _ (.tail _ (.tail _ (.tail _ (.tail _ (.tail _ (.head _)))))))))) (news_cons kN (.tail _ (.tail _ (.tail _ (.tail _ (.tail _ (.tail _ (.tail _ (.tail _ (.tail _ (.tail _ (.head _))))))))))) (news_cons kN (.tail _ (.tail _ (.tail _ (.tail _ (.tail _ (.tail _ (.tail _ (.tail _ (.tail _ (.tail _ (.tail _ (.head _)))))))))))) (news_cons kN (.tail _ (.tail _ (.tail _ (.tail _ (.tail _ (.tail _ (.tail _ (.tail _ (.tail _ (.tail _ (.tail _ (.tail _ (.head _))))))))))))) (news_cons kN (.tail _ (.tail _ (.tail _ (.tail _ (.tail _ (.tail _ (.tail _ (.tail _ (.tail _ (.tail _ (.tail _ (.tail _ (.tail _ (.head _)))))))))))))) (News.sub kN (fun p hp => .tail _ (.tail _ (.tail _ (.tail _ (.tail _ (.tail _ (.tail _ (.tail _ (.tail _ (.tail _ (.tail _ (.tail _ (.tail _ (.tail _ (hp))))))))))))))))))))))))))

  exact k _ _ _ _ _ _ _ _ _ _ _ _ _ _ _ _ _ _ _ _ _ _ _ _ _ _ _ kF N2 ⟨_, _, _, _, _, _, _, _, _, _, _, _, _, _, _, _, _, _, _, _, _, _, _, _, _, _, _, rfl⟩ ⟨_, _, _, _, _, _, _, _, _, _, _, _, _, _, _, _, _, _, _, _, _, _, _, _, rfl⟩ ⟨_, _, _, _, _, rfl⟩ kW (by omega) (by assumption) (by rfl) hlow (by omega)
end
end
section
open PySem PySem.W PyProof.Rows
theorem rst_11 {M : Model} {A : Around} {Q : Unit → Shared → Prop} {E : Value → Shared → Prop} {s : Shared} (h : Q () s) : wpAny M A (Sem.pure ()) Q E s := by
  w_top off
  first | walk1 | exact wpAny_pure h
end
section
open PySem PySem.W PyProof.Rows
theorem rst_12 {M : Model} {A : Around} {Q : Unit → Shared → Prop} {E : Value → Shared → Prop} {s : Shared} (h : Q () s) : wpAny M A (Sem.pure ()) Q E s := by
  w_top off
  first | walk1 | exact wpAny_pure h
end
section
open PySem PySem.W PySem.Calls PyProof.Rows PyProof.V
theorem fill_Makers : MineH.K = MineH.K ∧ PySem.Challenge.rw_pb0376_02 = PySem.Challenge.rw_pb0376_02 := by k_fill; exact ⟨rfl, rfl⟩
section
variable {w : World} {A₀ : Around} {base h₀ : Heap} {outer : List Env} {env : Env} {L : Addr} {m mg mb : Str → Option Value} {mean : ExcName → Option Value} {s : Shared} {R : Result → Shared → Prop}
  {d u : Nat} {gs : Option (List Code)} {news : List (Addr × Obj)} {t1 t2 t3 t4 : Tok} {nm : Str} {b : Int} {ob : Addr}

theorem objfile_ok (C : Cb w A₀ base h₀ outer env L m mg mb mean s.heap) (hdp : d < 600) (N : News h₀ L s.heap news)
  (k : ∀ h' tk ob dob oo rw mp om, Fr h₀ L h' m → News h₀ L h' ((mp, om) :: (ob, instObj 414 dob) :: (dob, oo) :: news) → ObjB oo rw mp → om.IsDictOf (intKind P2 w) [] → (mp == sysModules) = false → (∀ p ∈ news, p.1 < dob) → @LT.lt Nat _ dob ob → @LT.lt Nat _ ob mp → R (.ok (.ret (.ref ob))) { s with heap := h', toks := tk }) :
  codeAny (model P2 w) (mkA none d env outer gs u) (.call (.ref 414) ⟨[.str nm t1, .int 1 t2], []⟩) R s := by
  obtain ⟨B, F, X, T, hf, hke⟩ := C
  refine' make_K (K := MineH.K w.params) (fI := 411) F N (X.keeps F.keep) ?k4 ?k5 ?k6 ?_
  (case k4 => k_is)
  (case k5 => k_is)
  (case k6 => k_is)
  intro x' d' h' F' N' l1 l2
  have hlow := l1
  have hlow2 := l2
  (try k_lt l1)
  (try k_lt2 l2)
  (try k_sweep)
  k_enter
  k_steps
  (rename News h₀ L _ _ => kN); (rename Fr h₀ L _ _ => kF)
  have N2 : News h₀ L _ ((_, _) :: (x', instObj 414 d') :: (d', _) :: news) := news_cons kN (.tail _ (.head _)) (news_cons kN (by k_mem) (news_cons kN (by k_mem) (News.sub kN (by (intro p9 hp9; (repeat first | exact hp9 | refine List.Mem.tail _ ?_))))))
  exact k _ _ _ _ _ _ _ _ kF N2 ⟨_, _, _, _, _, _, _, _, _, _, _, _, _, _, _, _, _, _, _, _, _, _, _, _, _, _, _, _, _, _, _, _, _, _, _, _, _, rfl⟩ (by assumption) (by assumption) hlow hlow2 (by omega)

theorem loaded_ok (C : Cb w A₀ base h₀ outer env L m mg mb mean s.heap) (hdp : d < 600) (N : News h₀ L s.heap news)
  (k : ∀ h' tk lo dlo ol, Fr h₀ L h' m → News h₀ L h' ((lo, instObj 59 dlo) :: (dlo, ol) :: news) → LoadB ol b ob → (∀ p ∈ news, p.1 < dlo) → @LT.lt Nat _ dlo lo → R (.ok (.ret (.ref lo))) { s with heap := h', toks := tk }) :
  codeAny (model P2 w) (mkA none d env outer gs u) (.call (.ref 59) ⟨[.str nm t1, .int 1 t2, .int b t3, .int 64 t4, .ref ob], []⟩) R s := by
  obtain ⟨B, F, X, T, hf, hke⟩ := C
  refine' make_K (K := MineH.K w.params) (fI := 56) F N (X.keeps F.keep) ?k4 ?k5 ?k6 ?_
  (case k4 => k_is)
  (case k5 => k_is)
  (case k6 => k_is)
  intro x' d' h' F' N' l1 l2
  have hlow := l1
  have hlow2 := l2
  (try k_lt l1)
  (try k_lt2 l2)
  (try k_sweep)
  k_enter
  k_steps
  (rename News h₀ L _ _ => kN); (rename Fr h₀ L _ _ => kF)
  have N2 : News h₀ L _ ((x', instObj 59 d') :: (d', _) :: news) := news_cons kN (by k_mem) (news_cons kN (by k_mem) (News.sub kN (by (intro p9 hp9; (repeat first | exact hp9 | refine List.Mem.tail _ ?_)))))
  exact k _ _ _ _ _ kF N2 ⟨_, _, _, _, _, _, _, _, _, _, _, _, _, _, _, _, _, rfl⟩ hlow hlow2
end
end
section
open PySem PySem.W PyProof.Rows
theorem rst_13 {M : Model} {A : Around} {Q : Unit → Shared → Prop} {E : Value → Shared → Prop} {s : Shared} (h : Q () s) : wpAny M A (Sem.pure ()) Q E s := by
  w_top off
  first | walk1 | exact wpAny_pure h
end
section
open PySem PySem.W PySem.Calls PyProof.Rows PyProof.V
theorem fill_AddRows : MineH.K = MineH.K ∧ PySem.Challenge.rw_pb0376_02 = PySem.Challenge.rw_pb0376_02 := by k_fill; exact ⟨rfl, rfl⟩
local macro_rules | `(tactic| walk_at "pyIter ref") => `(tactic| refine held ?_)
section
variable {w : World} {A₀ : Around} {base h₀ : Heap} {outer : List Env} {env : Env} {L : Addr} {m mg mb : Str → Option Value} {mean : ExcName → Option Value} {s : Shared} {R : Result → Shared → Prop}
  {d u : Nat} {gs : Option (List Code)} {news : List (Addr × Obj)} {M dM mem rg rows hp cpu dc ld out gv src : Addr} {om oc : Obj} {limit pc : Int} {rv vs : List Value} {n1 n2 : Nat}

theorem add_rows_ok (C : Cb w A₀ base h₀ outer env L m mg mb mean s.heap) (hdp : d < 600) (N : News h₀ L s.heap ((rows, lisOf rv n1) :: news)) (hne : ∀ p ∈ news, p.1 ≠ rows)
  (h1 : (M, instObj 393 dM) ∈ news) (h2 : (dM, om) ∈ news) (hom : MachB om mem hp cpu ld out gv limit) (h3 : (cpu, instObj 245 dc) ∈ news) (h4 : (dc, oc) ∈ news) (hoc : CpuB oc mem rg pc rows) (h5 : (src, lisOf vs n2) ∈ news)
  (hl1 : rv.length ≤ 1000) (hl2 : vs.length ≤ 1000)
  (k : ∀ h' tk n' t, Fr h₀ L h' m → News h₀ L h' ((rows, lisOf (rv ++ vs) n') :: news) → R (.ok (.ret (.int rv.length t))) { s with heap := h', toks := tk }) :
  codeAny (model P2 w) (mkA none d env outer gs u) (.call (.ref 334) ⟨[.ref M, .ref src], []⟩) R s := by
  obtain ⟨B, F, X, T, hf, hke⟩ := C
  obtain ⟨x0, y0, t0, x1, y1, t1, x2, y2, t2, x3, y3, x4, y4, x5, y5, x6, y6, x7, y7, x8, y8, x9, y9, t9, x10, y10, t10, rfl⟩ := hom
  obtain ⟨a0, b0, a1, b1, a2, b2, c2, a3, b3, c3, a4, b4, c4, a5, b5, c5, a6, b6, c6, a7, b7, c7, a8, b8, rfl⟩ := hoc
  k_enter
  k_steps
  refine Held.of ?_
  (rename Fr _ _ _ _ => F1); (rename News _ _ _ _ => N1)
  refine' iter_lis (lo := lisOf vs n2) (vs := vs) (fun m₀ r m n => ∃ dn n' u9, n = (rows, lisOf (rv ++ dn) n') :: news ∧ dn ++ r = vs ∧ m = fun y => if y = Str.ofString "row" then u9 else m₀ y)
    rfl F1 N1 ?zm rfl rfl ⟨[], n1, _, by rw [List.append_nil], rfl, map_self _ _⟩ ?zt ?zd
  (case zm => exact .tail _ h5)
  (case zt =>
    clear F1 N1
    rintro I hI v r m₁ n it h9 tk9 ⟨dn, n', u9, rfl, hdn, rfl⟩ hit F2 N2
    have hrI : @LT.lt Nat _ rows I := hI _ (.head _)
    have hlen : (rv ++ dn).length ≤ 2000 := by
      have := congrArg List.length hdn
      simp only [List.length_append, List.length_cons] at this ⊢
      omega
    k_steps
    (rename News _ _ _ _ => kN)
    (try simp only [List.push_toArray] at kN)
    refine UnrEnd.intro (by assumption) kN _ (fun p hp => hp) (fun p hp => ?_) ⟨.tail _ h5, dn ++ [v], _, _, by rw [← List.append_assoc], by rw [List.append_assoc]; exact hdn, map_again⟩
    rcases List.mem_cons.mp hp with rfl | hp
    · exact Nat.ne_of_lt hrI
    · exact Nat.ne_of_lt (hI p (.tail _ hp)))
  (case zd =>
    clear F1 N1
    rintro m₁ n h9 tk9 ⟨dn, n', u9, rfl, hdn, rfl⟩ F2 N2
    rw [List.append_nil] at hdn
    subst hdn
    k_steps
    (rename News h₀ L _ _ => kN); (rename Fr h₀ L _ _ => kF)
    exact k _ _ _ _ kF kN)
end
end
section
open PySem PySem.W PyProof.Rows
theorem rst_14 {M : Model} {A : Around} {Q : Unit → Shared → Prop} {E : Value → Shared → Prop} {s : Shared} (h : Q () s) : wpAny M A (Sem.pure ()) Q E s := by
  w_top off
  first | walk1 | exact wpAny_pure h
end
section
open PySem PySem.W PyProof.Rows
theorem rst_15 {M : Model} {A : Around} {Q : Unit → Shared → Prop} {E : Value → Shared → Prop} {s : Shared} (h : Q () s) : wpAny M A (Sem.pure ()) Q E s := by
  w_top off
  first | walk1 | exact wpAny_pure h
end
section
open PySem PySem.W PySem.Calls PyProof.Rows PyProof.V
theorem fill_A2 : MineH.K = MineH.K ∧ PySem.Challenge.rw_pb0376_02 = PySem.Challenge.rw_pb0376_02 := by k_fill; exact ⟨rfl, rfl⟩
theorem lt9 {l : List (Addr × Obj)} {x a : Addr} {o : Obj} (h : ∀ p ∈ l, p.1 < x) (hm : (a, o) ∈ l) : @LT.lt Nat _ a x := h _ hm
noncomputable def AscL : List Nat → Prop
  | a :: b :: r => @LT.lt Nat _ a b ∧ AscL (b :: r)
  | _ => True
theorem AscL.at {b : Nat} : ∀ {a : Nat} {r : List Nat}, AscL (a :: r) → ∀ {j : Nat}, r[j]? = some b → @LT.lt Nat _ a b
  | _, [], _, _, h => nomatch h
  | _, _ :: _, x, 0, h => Option.some.inj h ▸ x.1
  | _, _ :: _, x, _ + 1, h => Nat.lt_trans x.1 (AscL.at x.2 (List.getElem?_cons_succ.symm.trans h))
theorem AscL.lt {a b : Nat} : ∀ {l : List Nat}, AscL l → ∀ (i j : Nat), l[i]? = some a → l[j]? = some b → Nat.blt i j = true → @LT.lt Nat _ a b
  | [], _, i, _, h, _, _ => by simp at h
  | [_], _, 0, 0, _, _, e => nomatch e
  | [_], _, 0, j + 1, _, h, _ => by simp at h
  | [_], _, i + 1, _, h, _, _ => by simp at h
  | c :: d :: r, x, 0, 0, _, _, e => nomatch e
  | c :: d :: r, x, 0, j + 1, h, g, _ => by
    have e : c = a := Option.some.inj h
    subst e
    exact x.at (List.getElem?_cons_succ.symm.trans g)
  | c :: d :: r, x, i + 1, 0, _, _, e => nomatch e
  | c :: d :: r, x, i + 1, j + 1, h, g, e => AscL.lt x.2 i j (List.getElem?_cons_succ.symm.trans h) (List.getElem?_cons_succ.symm.trans g) e
theorem AscL.ne {a b : Nat} {l : List Nat} (x : AscL l) (i j : Nat) (h : l[i]? = some a) (g : l[j]? = some b) (e : Nat.beq i j = false) : @Ne Nat a b := by
  rcases Nat.lt_trichotomy i j with q | q | q
  · exact Nat.ne_of_lt (x.lt i j h g (Nat.ble_eq_true_of_le q))
  · rw [q, Nat.beq_refl] at e; cases e
  · exact Nat.ne_of_gt (x.lt j i g h (Nat.ble_eq_true_of_le q))
/-- addresses apart, two by two -/
noncomputable def ApL (l : List Nat) : Prop := ∀ (i j : Nat) (a b : Nat), l[i]? = some a → l[j]? = some b → Nat.beq i j = false → @Ne Nat a b
theorem ApL.ne {a b : Nat} {l : List Nat} (x : ApL l) (i j : Nat) (h : l[i]? = some a) (g : l[j]? = some b) (e : Nat.beq i j = false) : @Ne Nat a b := x i j a b h g e
theorem ApL.of {l : List Nat} (x : AscL l) : ApL l := fun i j _ _ h g e => x.ne i j h g e
theorem ApL.snoc {b : Nat} {l : List Nat} (x : ApL l) (h : ∀ a ∈ l, @Ne Nat a b) : ApL (l ++ [b]) := fun i j p q hi hj e => by
  have key : ∀ (i : Nat) (p : Nat), (l ++ [b])[i]? = some p → (l[i]? = some p ∧ i < l.length) ∨ (p = b ∧ i = l.length) := fun i p hi => by
    by_cases hl : i < l.length
    · rw [List.getElem?_append_left hl] at hi; exact .inl ⟨hi, hl⟩
    · rw [List.getElem?_append_right (by omega)] at hi
      have hz : i - l.length = 0 := by
        have := (List.getElem?_eq_some_iff.mp hi).1
        rw [List.length_cons, List.length_nil] at this
        omega
      rw [hz] at hi
      exact .inr ⟨(Option.some.inj hi).symm, by omega⟩
  rcases key i p hi with ⟨h1, l1⟩ | ⟨h1, l1⟩
  · rcases key j q hj with ⟨h2, _⟩ | ⟨h2, _⟩
    · exact x i j p q h1 h2 e
    · rw [h2]; exact h p (List.mem_of_getElem? h1)
  · rcases key j q hj with ⟨h2, _⟩ | ⟨h2, l2⟩
    · rw [h1]; exact (h q (List.mem_of_getElem? h2)).symm
    · rw [l1, l2, Nat.beq_refl] at e; cases e
theorem grabC {P : Prop} {o : Obj} {v : Value} (_ : o.data = .cell (some v)) (k : ∀ o', o' = o → P) : P := k o rfl
theorem ne_L {a b : Addr} (h : @LT.lt Nat _ a b ∨ @LT.lt Nat _ b a) : a ≠ b := fun e => by subst e; exact h.elim (Nat.lt_irrefl _) (Nat.lt_irrefl _)
theorem upd_of {d : Addr} {o o' : Obj} {l : List (Addr × Obj)} {g : Obj → List (Addr × Obj)} (U : UpdF d o l g) : Upd d o o' l (g o') := by
  induction U with
  | head h => exact .head h
  | tail h _ ih => exact .tail h ih
section
variable {w : World} {A : Around} {E : Value → Shared → Prop} {s : Shared} {h₀ : Heap} {L : Addr} {m : Str → Option Value} {news : List (Addr × Obj)}

theorem mach_ld {M dM mem hp cpu ld out gv : Addr} {om : Obj} {limit : Int} {expr : Bool} {Q : Value → Shared → Prop} (F : Fr h₀ L s.heap m) (X : (MineH.K w.params).In h₀) (N : News h₀ L s.heap news) (h1 : (M, instObj 393 dM) ∈ news) (h2 : (dM, om) ∈ news) (hP : MachB om mem hp cpu ld out gv limit)
    (h : Q (.ref ld) { s with toks := s.toks + 1 }) : wpAny (model P2 w) A (getAttr (.ref M) "loaded" expr) Q E s := by
  obtain ⟨_, _, _, _, _, _, _, _, _, _, _, _, _, _, _, _, _, _, _, _, _, _, _, _, _, _, _, rfl⟩ := hP
  refine get_own F X (InstAt.of_news N h1 h2) (by k_is) (by k_is) (by k_is) (by k_is) rfl rfl h
theorem mach_mem {M dM mem hp cpu ld out gv : Addr} {om : Obj} {limit : Int} {expr : Bool} {Q : Value → Shared → Prop} (F : Fr h₀ L s.heap m) (X : (MineH.K w.params).In h₀) (N : News h₀ L s.heap news) (h1 : (M, instObj 393 dM) ∈ news) (h2 : (dM, om) ∈ news) (hP : MachB om mem hp cpu ld out gv limit)
    (h : Q (.ref mem) { s with toks := s.toks + 1 }) : wpAny (model P2 w) A (getAttr (.ref M) "memory" expr) Q E s := by
  obtain ⟨_, _, _, _, _, _, _, _, _, _, _, _, _, _, _, _, _, _, _, _, _, _, _, _, _, _, _, rfl⟩ := hP
  refine get_own F X (InstAt.of_news N h1 h2) (by k_is) (by k_is) (by k_is) (by k_is) rfl rfl h
theorem mach_cpu {M dM mem hp cpu ld out gv : Addr} {om : Obj} {limit : Int} {expr : Bool} {Q : Value → Shared → Prop} (F : Fr h₀ L s.heap m) (X : (MineH.K w.params).In h₀) (N : News h₀ L s.heap news) (h1 : (M, instObj 393 dM) ∈ news) (h2 : (dM, om) ∈ news) (hP : MachB om mem hp cpu ld out gv limit)
    (h : Q (.ref cpu) { s with toks := s.toks + 1 }) : wpAny (model P2 w) A (getAttr (.ref M) "cpu" expr) Q E s := by
  obtain ⟨_, _, _, _, _, _, _, _, _, _, _, _, _, _, _, _, _, _, _, _, _, _, _, _, _, _, _, rfl⟩ := hP
  refine get_own F X (InstAt.of_news N h1 h2) (by k_is) (by k_is) (by k_is) (by k_is) rfl rfl h
theorem mach_add {M dM mem hp cpu ld out gv : Addr} {om : Obj} {limit : Int} {pl : Sem Bool} {Q : Value × List Value → Shared → Prop} (F : Fr h₀ L s.heap m) (X : (MineH.K w.params).In h₀) (N : News h₀ L s.heap news) (h1 : (M, instObj 393 dM) ∈ news) (h2 : (dM, om) ∈ news) (hP : MachB om mem hp cpu ld out gv limit)
    (h : Q (.ref 334, [.ref M]) s) : wpAny (model P2 w) A (getMethod (.ref M) "add_rows" pl) Q E s := by
  obtain ⟨_, _, _, _, _, _, _, _, _, _, _, _, _, _, _, _, _, _, _, _, _, _, _, _, _, _, _, rfl⟩ := hP
  refine method_inst F X (InstAt.of_news N h1 h2) (by k_is) (by k_is) (by k_is) rfl h
theorem mach_data {M dM mem hp cpu ld out gv : Addr} {om : Obj} {limit : Int} {pl : Sem Bool} {Q : Value × List Value → Shared → Prop} (F : Fr h₀ L s.heap m) (X : (MineH.K w.params).In h₀) (N : News h₀ L s.heap news) (h1 : (M, instObj 393 dM) ∈ news) (h2 : (dM, om) ∈ news) (hP : MachB om mem hp cpu ld out gv limit)
    (h : Q (.ref 341, [.ref M]) s) : wpAny (model P2 w) A (getMethod (.ref M) "add_data" pl) Q E s := by
  obtain ⟨_, _, _, _, _, _, _, _, _, _, _, _, _, _, _, _, _, _, _, _, _, _, _, _, _, _, _, rfl⟩ := hP
  refine method_inst F X (InstAt.of_news N h1 h2) (by k_is) (by k_is) (by k_is) rfl h
theorem mach_most {M dM mem hp cpu ld out gv : Addr} {om : Obj} {limit : Int} {pl : Sem Bool} {Q : Value × List Value → Shared → Prop} (F : Fr h₀ L s.heap m) (X : (MineH.K w.params).In h₀) (N : News h₀ L s.heap news) (h1 : (M, instObj 393 dM) ∈ news) (h2 : (dM, om) ∈ news) (hP : MachB om mem hp cpu ld out gv limit)
    (h : Q (.ref 362, [.ref M]) s) : wpAny (model P2 w) A (getMethod (.ref M) "most_frames" pl) Q E s := by
  obtain ⟨_, _, _, _, _, _, _, _, _, _, _, _, _, _, _, _, _, _, _, _, _, _, _, _, _, _, _, rfl⟩ := hP
  refine method_inst F X (InstAt.of_news N h1 h2) (by k_is) (by k_is) (by k_is) rfl h
theorem obj_rows {ob dob rw mp : Addr} {oo : Obj} {expr : Bool} {Q : Value → Shared → Prop} (F : Fr h₀ L s.heap m) (X : (MineH.K w.params).In h₀) (N : News h₀ L s.heap news) (h1 : (ob, instObj 414 dob) ∈ news) (h2 : (dob, oo) ∈ news) (hP : ObjB oo rw mp)
    (h : Q (.ref rw) { s with toks := s.toks + 1 }) : wpAny (model P2 w) A (getAttr (.ref ob) "rows" expr) Q E s := by
  obtain ⟨_, _, _, _, _, _, _, _, _, _, _, _, _, _, _, _, _, _, _, _, _, _, _, _, _, _, _, _, _, _, _, _, _, _, _, _, _, rfl⟩ := hP
  refine get_own F X (InstAt.of_news N h1 h2) (by k_is) (by k_is) (by k_is) (by k_is) rfl rfl h
theorem obj_maps {ob dob rw mp : Addr} {oo : Obj} {expr : Bool} {Q : Value → Shared → Prop} (F : Fr h₀ L s.heap m) (X : (MineH.K w.params).In h₀) (N : News h₀ L s.heap news) (h1 : (ob, instObj 414 dob) ∈ news) (h2 : (dob, oo) ∈ news) (hP : ObjB oo rw mp)
    (h : Q (.ref mp) { s with toks := s.toks + 1 }) : wpAny (model P2 w) A (getAttr (.ref ob) "maps" expr) Q E s := by
  obtain ⟨_, _, _, _, _, _, _, _, _, _, _, _, _, _, _, _, _, _, _, _, _, _, _, _, _, _, _, _, _, _, _, _, _, _, _, _, _, rfl⟩ := hP
  refine get_own F X (InstAt.of_news N h1 h2) (by k_is) (by k_is) (by k_is) (by k_is) rfl rfl h
theorem obj_setrows {ob dob rw mp : Addr} {oo : Obj} {D : Addr} {g : Obj → List (Addr × Obj)} {Q : Unit → Shared → Prop} (F : Fr h₀ L s.heap m) (X : (MineH.K w.params).In h₀) (N : News h₀ L s.heap news) (h1 : (ob, instObj 414 dob) ∈ news) (U : UpdF dob oo news g) (hP : ObjB oo rw mp)
    (h : ∀ h' o', ObjB o' D mp → Fr h₀ L h' m → News h₀ L h' (g o') → Q () { s with heap := h', toks := s.toks + 2 }) : wpAny (model P2 w) A (setAttr (.ref ob) "rows" (.ref D)) Q E s := by
  have h2 : (dob, oo) ∈ news := by obtain ⟨pre, post, rfl, _⟩ := U.split; simp
  obtain ⟨_, _, _, _, _, _, _, _, _, _, _, _, _, _, _, _, _, _, _, _, _, _, _, _, _, _, _, _, _, _, _, _, _, _, _, _, _, rfl⟩ := hP
  refine set_dict F X N (InstAt.of_news N h1 h2) rfl (by k_is) (by k_is) (by k_is) (by k_is) rfl rfl (upd_of U) (Nat.le_of_ble_eq_true rfl) fun h' F' N' => h h' _ ⟨_, _, _, _, _, _, _, _, _, _, _, _, _, _, _, _, _, _, _, _, _, _, _, _, _, _, _, _, _, _, _, _, _, _, _, _, _, rfl⟩ F' N'
theorem mem_size {mem dm wd : Addr} {omem : Obj} {sz : Int} {expr : Bool} {Q : Value → Shared → Prop} (F : Fr h₀ L s.heap m) (X : (MineH.K w.params).In h₀) (N : News h₀ L s.heap news) (h1 : (mem, instObj 301 dm) ∈ news) (h2 : (dm, omem) ∈ news) (hP : MemB omem sz wd)
    (h : ∀ t, Q (.int sz t) { s with toks := s.toks + 1 }) : wpAny (model P2 w) A (getAttr (.ref mem) "size" expr) Q E s := by
  obtain ⟨_, _, _, _, _, rfl⟩ := hP
  refine get_own F X (InstAt.of_news N h1 h2) (by k_is) (by k_is) (by k_is) (by k_is) rfl rfl (h _)
theorem mem_put {mem dm wd : Addr} {omem : Obj} {sz : Int} {pl : Sem Bool} {Q : Value × List Value → Shared → Prop} (F : Fr h₀ L s.heap m) (X : (MineH.K w.params).In h₀) (N : News h₀ L s.heap news) (h1 : (mem, instObj 301 dm) ∈ news) (h2 : (dm, omem) ∈ news) (hP : MemB omem sz wd)
    (h : Q (.ref 284, [.ref mem]) s) : wpAny (model P2 w) A (getMethod (.ref mem) "put_word" pl) Q E s := by
  obtain ⟨_, _, _, _, _, rfl⟩ := hP
  refine method_inst F X (InstAt.of_news N h1 h2) (by k_is) (by k_is) (by k_is) rfl h
theorem mem_word {mem dm wd : Addr} {omem : Obj} {sz : Int} {pl : Sem Bool} {Q : Value × List Value → Shared → Prop} (F : Fr h₀ L s.heap m) (X : (MineH.K w.params).In h₀) (N : News h₀ L s.heap news) (h1 : (mem, instObj 301 dm) ∈ news) (h2 : (dm, omem) ∈ news) (hP : MemB omem sz wd)
    (h : Q (.ref 277, [.ref mem]) s) : wpAny (model P2 w) A (getMethod (.ref mem) "word" pl) Q E s := by
  obtain ⟨_, _, _, _, _, rfl⟩ := hP
  refine method_inst F X (InstAt.of_news N h1 h2) (by k_is) (by k_is) (by k_is) rfl h
theorem cpu_regs {cpu dc mem rg rows : Addr} {oc : Obj} {pc : Int} {expr : Bool} {Q : Value → Shared → Prop} (F : Fr h₀ L s.heap m) (X : (MineH.K w.params).In h₀) (N : News h₀ L s.heap news) (h1 : (cpu, instObj 245 dc) ∈ news) (h2 : (dc, oc) ∈ news) (hP : CpuB oc mem rg pc rows)
    (h : Q (.ref rg) { s with toks := s.toks + 1 }) : wpAny (model P2 w) A (getAttr (.ref cpu) "regs" expr) Q E s := by
  obtain ⟨_, _, _, _, _, _, _, _, _, _, _, _, _, _, _, _, _, _, _, _, _, _, _, _, rfl⟩ := hP
  refine get_own F X (InstAt.of_news N h1 h2) (by k_is) (by k_is) (by k_is) (by k_is) rfl rfl h
theorem cpu_setpc {cpu dc mem rg rows : Addr} {oc : Obj} {pc : Int} {x : Int} {t : Tok} {g : Obj → List (Addr × Obj)} {Q : Unit → Shared → Prop} (F : Fr h₀ L s.heap m) (X : (MineH.K w.params).In h₀) (N : News h₀ L s.heap news) (h1 : (cpu, instObj 245 dc) ∈ news) (U : UpdF dc oc news g) (hP : CpuB oc mem rg pc rows)
    (h : ∀ h' o', CpuB o' mem rg x rows → Fr h₀ L h' m → News h₀ L h' (g o') → Q () { s with heap := h', toks := s.toks + 2 }) : wpAny (model P2 w) A (setAttr (.ref cpu) "pc" (.int x t)) Q E s := by
  have h2 : (dc, oc) ∈ news := by obtain ⟨pre, post, rfl, _⟩ := U.split; simp
  obtain ⟨_, _, _, _, _, _, _, _, _, _, _, _, _, _, _, _, _, _, _, _, _, _, _, _, rfl⟩ := hP
  refine set_dict F X N (InstAt.of_news N h1 h2) rfl (by k_is) (by k_is) (by k_is) (by k_is) rfl rfl (upd_of U) (Nat.le_of_ble_eq_true rfl) fun h' F' N' => h h' _ ⟨_, _, _, _, _, _, _, _, _, _, _, _, _, _, _, _, _, _, _, _, _, _, _, _, rfl⟩ F' N'
theorem load_obj {lo dlo ob : Addr} {ol : Obj} {b : Int} {expr : Bool} {Q : Value → Shared → Prop} (F : Fr h₀ L s.heap m) (X : (MineH.K w.params).In h₀) (N : News h₀ L s.heap news) (h1 : (lo, instObj 59 dlo) ∈ news) (h2 : (dlo, ol) ∈ news) (hP : LoadB ol b ob)
    (h : Q (.ref ob) { s with toks := s.toks + 1 }) : wpAny (model P2 w) A (getAttr (.ref lo) "object" expr) Q E s := by
  obtain ⟨_, _, _, _, _, _, _, _, _, _, _, _, _, _, _, _, _, rfl⟩ := hP
  refine get_own F X (InstAt.of_news N h1 h2) (by k_is) (by k_is) (by k_is) (by k_is) rfl rfl h
end
end
section
open PySem PySem.W PySem.Calls PyProof.Rows PyProof.V PySem.Spec
section
variable {prog : Program} {w : World} {A : Around} {E : Value → Shared → Prop} {s : Shared} {env : Env} {h₀ : Heap} {x : Str} {px : Pos} {body : List Stmt} {Q : Flow → Shared → Prop}
/-- a loop over a range whose name lies in a cell, by an invariant -/
theorem iter_ranT {r : Addr} {a₀ b₀ : Int} {t₀ u₀ v₀ : Tok} {n : Nat} {m₀ : Str → Option Value} {news : List (Addr × Obj)} (J : Nat → (Str → Option Value) → List (Addr × Obj) → Prop)
    (hh : A.handled = none) (hr : IsRange s.heap r a₀ b₀ 1 t₀ u₀ v₀) (hsmall : Builtin.Range.small a₀ b₀ 1 = true) (hn : Builtin.Range.rangeSize a₀ b₀ 1 = (n : Int)) (F : Fr h₀ env.locals s.heap m₀) (N : News h₀ env.locals s.heap news) (hj : J 0 m₀ news)
    (turn : ∀ I : Addr, (∀ p ∈ news, p.1 < I) → ∀ i m l t h tk, i < n → J i m l → (∀ p ∈ l, p.1 ≠ I) → Fr h₀ env.locals h m → News h₀ env.locals h ((I, itR (a₀ + ((i + 1 : Nat) : Int)) ((n : Int) - ((i + 1 : Nat) : Int))) :: l) →
      wpAny (model prog w) A (assign (.Name x px) env (.int (a₀ + (i : Int)) t)) (fun _ s₃ => wpAny (model prog w) A (execs body env) (UnrPost h₀ env.locals { s with heap := h, toks := tk } I (itR (a₀ + ((i + 1 : Nat) : Int)) ((n : Int) - ((i + 1 : Nat) : Int))) (fun m' l' => J (i + 1) m' l') Q) E s₃) E { s with heap := h, toks := tk })
    (done : ∀ m l h tk, J n m l → Fr h₀ env.locals h m → News h₀ env.locals h l → Q .next { s with heap := h, toks := tk }) :
    wpAny (model prog w) A (pyIter (.ref r)) (fun it s₂ => TurnsAt prog w A h₀ env (.Name x px) body Q E it s₂) E s := by
  refine wpAny_pyIter_range hr hsmall ?_
  have turn := turn s.heap.objs.size fun p hp => Heap.lt_size (N p hp).1
  have W := PyProof.Rows.LCg.range_walks (prog := prog) (w := w) (A := A) (I := s.heap.objs.size) hh a₀ n
  have hnew := next_is_new F
  refine ⟨s.heap.objs.size, [s.heap.objs.size], [s.heap.objs.size], n, _, _, _, m₀, news, J, rfl, KTurns.ofWalks W (fun i v s' Q' E' _ h => wpAny_pure h), ?_, ?_, ?_, (by show IsRangeIter _ _ _ _ _; rw [hn]; simpa using Heap.get?_push_size _ rfl), F.push _, (fun p hp => ⟨Heap.get?_push_of_some _ (N p hp).1, (N p hp).2⟩), hj, ?_, ?_⟩
  · intro hm
    exact absurd F.ns.lt ((List.mem_singleton.mp hm) ▸ Nat.lt_irrefl _)
  · intro b hb
    rw [List.mem_singleton.mp hb]
    exact hnew
  · intro p hp hI
    exact absurd (Heap.lt_size (N p hp).1) ((List.mem_singleton.mp hI) ▸ Nat.lt_irrefl _)
  · rintro i v m₁ news₁ h₁ tk₁ own hin ⟨t, rfl⟩ hJ hoff hown hget hall hst F₁ N₁
    have hst' : h₁.get? s.heap.objs.size = some (itR (a₀ + ((i + 1 : Nat) : Int)) ((n : Int) - ((i + 1 : Nat) : Int))) := by
      have q : IsRangeIter h₁ s.heap.objs.size (a₀ + ((i + 1 : Nat) : Int) * 1) ((n : Int) - ((i + 1 : Nat) : Int)) 1 := hst
      rw [Int.mul_one] at q
      exact q
    have hmem := hall s.heap.objs.size (List.mem_singleton.mpr rfl) hnew _ hst'
    have N₂ : News h₀ env.locals h₁ ((s.heap.objs.size, itR (a₀ + ((i + 1 : Nat) : Int)) ((n : Int) - ((i + 1 : Nat) : Int))) :: news₁) := fun p hp => by
      rcases List.mem_cons.mp hp with rfl | hp
      · exact N₁ _ (List.mem_append_left _ hmem)
      · exact N₁ _ (List.mem_append_right _ hp)
    refine wpAny_mono (turn i m₁ news₁ t h₁ tk₁ hin hJ (fun p hp e => hoff p hp (List.mem_singleton.mpr e)) F₁ N₂) (fun _ s₃ p => wpAny_mono p (fun f s₂ p => ?_) fun _ _ e => e) fun _ _ e => e
    have fin : UnrEnd h₀ env.locals { s with heap := h₁, toks := tk₁ } s.heap.objs.size (itR (a₀ + ((i + 1 : Nat) : Int)) ((n : Int) - ((i + 1 : Nat) : Int))) (fun m' l' => J (i + 1) m' l') s₂ →
        LoopStepU h₀ env.locals [s.heap.objs.size] own (J (i + 1)) { s with heap := h₁, toks := tk₁ } .next s₂ := by
      rintro ⟨h', tk, m', news', e, F', N', ho, r⟩
      refine ⟨rfl, h', tk, m', news', e, F', fun p hp => ?_, fun p hp hI => ho p hp (List.mem_singleton.mp hI), r⟩
      rcases List.mem_append.mp hp with hp | hp
      · have h1 : p.1 = s.heap.objs.size := List.mem_singleton.mp (hown p hp)
        have h2 : h₁.get? p.1 = some p.2 := hget p hp
        have h3 : p = (s.heap.objs.size, itR (a₀ + ((i + 1 : Nat) : Int)) ((n : Int) - ((i + 1 : Nat) : Int))) := by
          rw [h1, hst'] at h2
          exact Prod.ext h1 (Option.some.inj h2).symm
        rw [h3]; exact N' _ (List.mem_cons_self ..)
      · exact N' _ (List.mem_cons_of_mem _ hp)
    cases f with
    | ret v => exact p
    | brk => exact p
    | next => exact fin p
    | cont => exact fin p
  · intro h' tk m' news' F' N' _ hJ
    exact done m' news' h' tk hJ F' N'
end
end
section
open PySem PySem.W PyProof.Rows
theorem rst_17 {M : Model} {A : Around} {Q : Unit → Shared → Prop} {E : Value → Shared → Prop} {s : Shared} (h : Q () s) : wpAny M A (Sem.pure ()) Q E s := by
  w_top off
  first | walk1 | exact wpAny_pure h
end
section
open PySem PySem.W PySem.Calls PyProof.Rows PyProof.V
theorem fill : MineH.K = MineH.K ∧ PySem.Challenge.rw_pb0376_02 = PySem.Challenge.rw_pb0376_02 := by k_fill; exact ⟨rfl, rfl⟩

local macro_rules | `(tactic| k_room) => `(tactic| ((try simp only [depth_under_make, depth_under_kw, depth_in1, depth_deeper, depth_caller]); (first | decide | (simp only [recursionLimit]; omega))))
local macro_rules | `(tactic| k_mem) => `(tactic| assumption)
local macro_rules | `(tactic| k_get) => `(tactic| assumption)
local macro_rules | `(tactic| k_enter) => `(tactic|
   (refine' code_def ?k1 ?k2 ?k3 ?k4 ?k5 ?kA ?kF ?kK ?k6 ?k7 ?k8 ?k9 ?kB ?_ ?c2 ?c3 ?c4 ?c5; (case kA => exact rfl); (case kF => first | exact rfl | assumption); (case kK => first | exact rfl | assumption); (case k1 => k_asm); (case k2 => k_asm); (case k3 => k_asm); (case k4 => k_asm); (case k5 => k_asm); (case k6 => k_is); (case k7 => k_is); (case k8 => k_room); (case k9 => exact BindsTo.of_eq rfl); (case c5 => decide); (case kB => exact locs rfl); (case c2 => exact rfl); (case c3 => exact rfl); (case c4 => exact rfl); k_whole; intro g' L' h' FG' F' N' B' X' T'; (try dsimp only); (try k_lift B'); (try k_fold)))
local macro_rules | `(tactic| walk_at "getMethod ref") => `(tactic| (k_here; k_dflt (refine' Words.method ?N ?m ?W ?_; (case N => k_asm); (case m => k_mem); (case W => assumption); k_whole)))
local macro_rules | `(tactic| walk_at "call builtin:dict.get") => `(tactic| (k_here; k_dflt (refine' Words.get ?N ?m ?W ?lo ?_; (case N => k_asm); (case m => k_mem); (case W => assumption); (case lo => assumption); k_whole; intro _)))

local macro_rules | `(tactic| walk_at "setItem ref int") => `(tactic| (k_here; k_dflt (refine' Words.put ?F ?N ?U ?W ?c ?_; (case F => k_asm); (case N => k_asm); (case U => k_updF); (case W => assumption); (case c => omega); k_whole; intro h' o' F' N' W'; (try dsimp only at N'))))

noncomputable abbrev memEs (h1 : Int) (t1 : Tok) (sz : Int) (t2 : Tok) (h2 : Int) (t3 : Tok) (wd : Addr) : List DictEntry := [ent "size" h1 t1 (.int sz t2), ent "words" h2 t3 (.ref wd)]
section
variable {w : World} {A₀ : Around} {base h₀ : Heap} {outer : List Env} {env : Env} {L : Addr} {m mg mb : Str → Option Value} {mean : ExcName → Option Value} {news : List (Addr × Obj)} {s : Shared} {R : Result → Shared → Prop}
  {hdl : Option Value} {d u : Nat} {gs : Option (List Code)} {mem md wd : Addr} {ow : Obj} {t1 t2 t3 ta n : Nat} {h1 h2 sz a : Int} {f : Int → Int} {c : Nat}

theorem place_ok (B : Below A₀ base outer h₀) (F : Fr h₀ L s.heap m) (X : (MineH.K w.params).In h₀) (N : News h₀ L s.heap news) (T : Top MineH.qv (looseW MineH.qv []) mean mg mb h₀)
  (hf : env.frame = some L) (hke : env.scope.kind = .function) (hdp : d < 900)
  (hm : (mem, instObj 301 md) ∈ news) (hmd : (md, dictOf (memEs h1 t1 sz t2 h2 t3 wd) n) ∈ news)
  (ha : 0 ≤ a) (hb : a < sz)
  (k : ∀ h' tk tv, Fr h₀ L h' m → News h₀ L h' news → R (.ok (.ret (.int (a.fdiv 4) tv))) { s with heap := h', toks := tk }) :
  codeAny (model PySem.Challenge.rw_pb0376_02.row.prog w) (mkA hdl d env outer gs u) (.call (.ref 270) ⟨[.ref mem, .int a ta], []⟩) R s := by
  k_enter
  k_steps
  exact k _ _ _ (by assumption) (by assumption)

local macro_rules | `(tactic| walk_at "call ref") => `(tactic| (k_here; k_dflt (refine' wpAny_call (place_ok ?B ?F ?X ?N ?T ?f ?k ?d ?m1 ?m2 ?ha ?hb ?_); (case B => k_asm); (case F => k_asm); (case X => k_asm); (case N => k_asm); (case T => k_asm); (case f => rfl); (case k => rfl); (case d => (try simp only [depth_deeper]); omega); (case m1 => k_mem); (case m2 => k_mem); (case ha => omega); (case hb => omega); k_whole; intro h' tk tv F' N'; (try dsimp only))))

theorem word_ok (B : Below A₀ base outer h₀) (F : Fr h₀ L s.heap m) (X : (MineH.K w.params).In h₀) (N : News h₀ L s.heap news) (T : Top MineH.qv (looseW MineH.qv []) mean mg mb h₀)
  (hf : env.frame = some L) (hke : env.scope.kind = .function) (hdp : d < 890)
  (hm : (mem, instObj 301 md) ∈ news) (hmd : (md, dictOf (memEs h1 t1 sz t2 h2 t3 wd) n) ∈ news) (how : (wd, ow) ∈ news) (W : Words PySem.Challenge.rw_pb0376_02.row.prog w ow f c) (lo : (wd == sysModules) = false)
  (ha : 0 ≤ a) (hb : a < sz)
  (k : ∀ h' tk tv, Fr h₀ L h' m → News h₀ L h' news → R (.ok (.ret (.int (f (a.fdiv 4)) tv))) { s with heap := h', toks := tk }) :
  codeAny (model PySem.Challenge.rw_pb0376_02.row.prog w) (mkA hdl d env outer gs u) (.call (.ref 277) ⟨[.ref mem, .int a ta], []⟩) R s := by
  k_enter
  k_steps
  exact k _ _ _ (by assumption) (by assumption)

theorem put_word_ok {g : Obj → List (Addr × Obj)} {v : Int} {tv : Tok} (B : Below A₀ base outer h₀) (F : Fr h₀ L s.heap m) (X : (MineH.K w.params).In h₀) (N : News h₀ L s.heap news) (T : Top MineH.qv (looseW MineH.qv []) mean mg mb h₀)
  (hf : env.frame = some L) (hke : env.scope.kind = .function) (hdp : d < 890)
  (hm : (mem, instObj 301 md) ∈ news) (hmd : (md, dictOf (memEs h1 t1 sz t2 h2 t3 wd) n) ∈ news) (U : UpdF wd ow news g) (W : Words PySem.Challenge.rw_pb0376_02.row.prog w ow f c) (lo : (wd == sysModules) = false) (hc : c ≤ 1000)
  (e1 : @Ne Nat mem wd) (e2 : @Ne Nat md wd) (ha : 0 ≤ a) (hb : a < sz)
  (k : ∀ h' tk o', Fr h₀ L h' m → News h₀ L h' (g o') → Words PySem.Challenge.rw_pb0376_02.row.prog w o' (fun x => if x = a.fdiv 4 then v.fmod 4294967296 else f x) (c + 1) → R (.ok (.ret .none)) { s with heap := h', toks := tk }) :
  codeAny (model PySem.Challenge.rw_pb0376_02.row.prog w) (mkA hdl d env outer gs u) (.call (.ref 284) ⟨[.ref mem, .int a ta, .int v tv], []⟩) R s := by
  refine' call_frame (touched := [(wd, ow), (mem, instObj 301 md), (md, dictOf (memEs h1 t1 sz t2 h2 t3 wd) n)]) B F X (News.sub N ?hs) T rfl hf hke ?k6 ?k7 ?k8 ?k9 ?kB ?_ ?c2 ?c3 ?c4 ?c5
  (case hs => simp only [List.forall_mem_cons]; exact ⟨updF_mem U, hm, hmd, fun _ h => nomatch h⟩)
  (case k6 => k_is)
  (case k7 => k_is)
  (case k8 => k_room)
  (case k9 => exact BindsTo.of_eq rfl)
  (case c5 => decide)
  (case kB => exact locs rfl)
  (case c2 => exact rfl)
  (case c3 => exact rfl)
  (case c4 => exact rfl)
  intro g' L' h' FG' F' N' B' X' T' HG
  (try dsimp only)
  (try k_lift B')
  (try k_fold)
  k_steps
  (rename News h₀ L _ _ => kN); (rename Fr h₀ L _ _ => kF); (rename Fr g' _ _ _ => F9); (rename Words _ _ _ _ _ => W9)
  refine k _ _ _ kF (news_put U N (kN _ (.head _)).1 fun b ob hb e => ?_) W9
  refine kept_but (ch := [wd]) (still := [(mem, instObj 301 md), (md, dictOf (memEs h1 t1 sz t2 h2 t3 wd) n)]) HG F9.keep ?_ b ob (by simpa using hb) e
  simp only [List.forall_mem_cons]
  exact ⟨⟨N.get hm, (kN _ (.tail _ (.head _))).1⟩, ⟨N.get hmd, (kN _ (.tail _ (.tail _ (.head _)))).1⟩, fun _ h => nomatch h⟩
end
end
section
open PySem PySem.W PyProof.Rows
theorem rst_18 {M : Model} {A : Around} {Q : Unit → Shared → Prop} {E : Value → Shared → Prop} {s : Shared} (h : Q () s) : wpAny M A (Sem.pure ()) Q E s := by
  w_top off
  first | walk1 | exact wpAny_pure h
end
section
open PySem PySem.W PySem.Calls PyProof.Rows PyProof.V PySem.Spec
section
variable {prog : Program} {w : World} {A : Around} {E : Value → Shared → Prop} {s : Shared} {h₀ : Heap} {L d : Addr} {m : Str → Option Value} {news : List (Addr × Obj)} {o : Obj} {kvs : List (Int × Value)}
theorem sub_map {value slice : PySem.Expr} {i : Int} {t : Tok} {v : Value} {Q : Value → Shared → Prop} (N : News h₀ L s.heap news) (hm : (d, o) ∈ news) (hd : o.IsDictOf (intKind prog w) kvs) (hv : valueAt kvs i = some v)
    (h : Q v { s with toks := s.toks + 1 })
    (hs : subscripted slice false (.ref d) (.int i t) = operate [.ref d, .int i t] (getItem (.ref d) (.int i t)) := by with_unfolding_all rfl) (hg : ∀ r, letTemporaryGo value (.ref d) r = pure () := by intro _; with_unfolding_all rfl) :
    wpAny (model prog w) A (subscriptTail value slice (.ref d) (.int i t)) Q E s := by
  have D : s.heap.DictOf (intKind prog w) d kvs := Heap.dictOf_iff.mpr ⟨o, N.get hm, hd⟩
  exact subscriptTail_builtin D.typeIs slot_dict_getitem.lookup (wpAny_getItem_of (intKind_is prog w i t) D.mapOf hv h) hs hg
end
section
variable {w : World} {A₀ : Around} {base h₀ : Heap} {outer : List Env} {env : Env} {L : Addr} {m mg mb : Str → Option Value} {mean : ExcName → Option Value} {s : Shared} {R : Result → Shared → Prop}
  {d u : Nat} {gs : Option (List Code)} {mem dm wd : Addr} {ow omem : Obj} {ta : Tok} {sz a : Int} {f : Int → Int} {c : Nat} {led rest : List (Addr × Obj)}
theorem word_m (C : Cb w A₀ base h₀ outer env L m mg mb mean s.heap) (hdp : d < 890) (N : News h₀ L s.heap led) (b3 : (mem, instObj 301 dm) ∈ led) (b4 : (dm, omem) ∈ led) (hmem : MemB omem sz wd) (b5 : (wd, ow) ∈ led) (W : Words P2 w ow f c) (lo : (wd == sysModules) = false)
  (ha : 0 ≤ a) (hb : a < sz) (k : ∀ h' tk tv, Fr h₀ L h' m → News h₀ L h' led → R (.ok (.ret (.int (f (a.fdiv 4)) tv))) { s with heap := h', toks := tk }) :
  codeAny (model P2 w) (mkA none d env outer gs u) (.call (.ref 277) ⟨[.ref mem, .int a ta], []⟩) R s := by
  obtain ⟨m0, m1, m2, m3, m4, rfl⟩ := hmem
  exact word_ok C.B C.F C.X N C.T C.hf C.hke hdp b3 b4 b5 W lo ha hb k
theorem put_word_m {v : Int} {tv : Tok} (C : Cb w A₀ base h₀ outer env L m mg mb mean s.heap) (hdp : d < 890) (N : News h₀ L s.heap led) (b5 : (wd, ow) ∈ led) (hr : ∀ p ∈ rest, p ∈ led) (b3 : (mem, instObj 301 dm) ∈ rest) (b4 : (dm, omem) ∈ rest) (hmem : MemB omem sz wd)
  (off : ∀ p ∈ rest, p.1 ≠ wd) (W : Words P2 w ow f c) (lo : (wd == sysModules) = false) (hc : c ≤ 1000) (ha : 0 ≤ a) (hb : a < sz)
  (k : ∀ h' tk ow', Fr h₀ L h' m → News h₀ L h' ((wd, ow') :: rest) → Words P2 w ow' (fun x => if x = a.fdiv 4 then v.fmod 4294967296 else f x) (c + 1) → R (.ok (.ret .none)) { s with heap := h', toks := tk }) :
  codeAny (model P2 w) (mkA none d env outer gs u) (.call (.ref 284) ⟨[.ref mem, .int a ta, .int v tv], []⟩) R s := by
  obtain ⟨m0, m1, m2, m3, m4, rfl⟩ := hmem
  exact put_word_ok C.B C.F C.X (news_cons N b5 (News.sub N hr)) C.T C.hf C.hke hdp (.tail _ b3) (.tail _ b4) (UpdF.head off) W lo hc (off _ b3) (off _ b4) ha hb k
end
theorem lt_true9 {prog : Program} {w : World} {A : Around} {E : Value → Shared → Prop} {s : Shared} {a b : Int} {t t' : Tok} {Q : Value → Shared → Prop} (hn : a < b) (h : Q (.bool true) s) : wpAny (model prog w) A (compareOp .Lt (.int a t) (.int b t')) Q E s := by
  refine PyProof.Rows.lt_int ?_
  rw [decide_eq_true hn]
  exact h
theorem lt_false9 {prog : Program} {w : World} {A : Around} {E : Value → Shared → Prop} {s : Shared} {a b : Int} {t t' : Tok} {Q : Value → Shared → Prop} (hn : b ≤ a) (h : Q (.bool false) s) : wpAny (model prog w) A (compareOp .Lt (.int a t) (.int b t')) Q E s := by
  refine PyProof.Rows.lt_int ?_
  rw [decide_eq_false (show ¬ a < b by omega)]
  exact h
/-- lists of ints, one a frame -/
noncomputable def WordsAre (old led : List (Addr × Obj)) : List Value → List (List Int) → Prop
  | [], [] => True
  | v :: vs, l :: ls => (∃ x ws k, v = .ref x ∧ (x, lisOf ws k) ∈ led ∧ IntsAre ws l ∧ ws.length ≤ 4 ∧ ∀ p ∈ old, p.1 ≠ x) ∧ WordsAre old led vs ls
  | _, _ => False
theorem WordsAre.mono {old led led' : List (Addr × Obj)} (hs : ∀ p ∈ led, p ∈ led') : ∀ {vs : List Value} {ls : List (List Int)}, WordsAre old led vs ls → WordsAre old led' vs ls
  | [], [], _ => trivial
  | _ :: _, _ :: _, h => by
    obtain ⟨⟨x, ws, k, q1, q2, q3⟩, r⟩ := h
    exact ⟨⟨x, ws, k, q1, hs _ q2, q3⟩, WordsAre.mono hs r⟩
  | [], _ :: _, h => h.elim
  | _ :: _, [], h => h.elim
theorem WordsAre.snoc {old led : List (Addr × Obj)} {x : Addr} {ws : List Value} {k : Nat} {l : List Int} (h1 : (x, lisOf ws k) ∈ led) (h2 : IntsAre ws l) (h3 : ws.length ≤ 4) (h4 : ∀ p ∈ old, p.1 ≠ x) : ∀ {vs : List Value} {ls : List (List Int)}, WordsAre old led vs ls → WordsAre old led (vs ++ [.ref x]) (ls ++ [l])
  | [], [], _ => ⟨⟨x, ws, k, rfl, h1, h2, h3, h4⟩, trivial⟩
  | _ :: _, _ :: _, h => ⟨h.1, WordsAre.snoc h1 h2 h3 h4 h.2⟩
  | [], _ :: _, h => h.elim
  | _ :: _, [], h => h.elim
theorem WordsAre.length {old led : List (Addr × Obj)} : ∀ {vs : List Value} {ls : List (List Int)}, WordsAre old led vs ls → vs.length = ls.length
  | [], [], _ => rfl
  | _ :: _, _ :: _, h => congrArg (· + 1) (WordsAre.length h.2)
  | [], _ :: _, h => h.elim
  | _ :: _, [], h => h.elim
theorem WordsAre.at {old led : List (Addr × Obj)} {l : List Int} : ∀ {vs : List Value} {ls : List (List Int)} {i : Nat}, WordsAre old led vs ls → ls[i]? = some l → ∃ x ws k, vs[i]? = some (.ref x) ∧ (x, lisOf ws k) ∈ led ∧ IntsAre ws l ∧ ws.length ≤ 4 ∧ ∀ p ∈ old, p.1 ≠ x
  | [], [], _, _, e => by simp at e
  | v :: vs, l' :: ls, 0, h, e => by
    have e' : l' = l := Option.some.inj e
    subst e'
    obtain ⟨x, ws, k, q1, q2⟩ := h.1
    subst q1
    exact ⟨x, ws, k, rfl, q2⟩
  | v :: vs, l' :: ls, i + 1, h, e => WordsAre.at (vs := vs) (ls := ls) (i := i) h.2 e
  | [], _ :: _, _, h, _ => h.elim
  | _ :: _, [], _, h, _ => h.elim
theorem ints_at {vs : List Value} {ns : List Int} (h : IntsAre vs ns) : ∀ {i : Nat} {v : Value}, vs[i]? = some v → ∃ x t, v = .int x t ∧ ns[i]? = some x := by
  induction h with
  | nil => intro i v e; simp at e
  | cons x t _ ih =>
    intro i v e
    cases i with
    | zero => exact ⟨x, t, (Option.some.inj e).symm, rfl⟩
    | succ i => exact ih e
theorem ints_get {vs : List Value} {ns : List Int} (h : IntsAre vs ns) : ∀ {i : Nat} {x : Int}, ns[i]? = some x → ∃ t, vs[i]? = some (.int x t) := by
  induction h with
  | nil => intro i v e; simp at e
  | cons x t _ ih =>
    intro i y e
    cases i with
    | zero => exact ⟨t, by rw [← Option.some.inj e]; rfl⟩
    | succ i => exact ih e
end
section
open PySem PySem.W PySem.Calls PyProof.Rows PyProof.V PySem.Spec
/-- what an offset of a map may be -/
noncomputable def OffOk (o : Int) : Prop := o = -24 ∨ o = -20 ∨ o = -16 ∨ o = -12
/-- where a frame lies -/
noncomputable def pAt (n i : Nat) : Int := 464 - 32 * ((n : Int) - (i : Int))
noncomputable def placesL (n : Nat) : List Int := (List.range n).map fun (i : Nat) => (464 : Int) - 32 * ((n : Int) - (i : Int))
theorem places_get {n i : Nat} (h : i < n) : (placesL n)[i]? = some (pAt n i) := by
  unfold placesL
  rw [List.getElem?_map, List.getElem?_range h]
  rfl
theorem fd4 (a : Int) : a.fdiv 4 = a / 4 := Int.fdiv_eq_ediv_of_nonneg _ (by decide)
noncomputable def nx (n bk i : Nat) : Nat := if i + 1 < n then i + 1 else bk
theorem nx_lt {n bk i : Nat} (hb : bk < n) (h : i < n) : nx n bk i < n := by
  unfold nx
  split <;> omega
noncomputable def ring (n bk : Nat) : Nat → Nat
  | 0 => 0
  | t + 1 => nx n bk (ring n bk t)
theorem ring_lt {n bk : Nat} (h0 : 0 < n) (hb : bk < n) : ∀ t, ring n bk t < n
  | 0 => h0
  | t + 1 => nx_lt hb (ring_lt h0 hb t)
noncomputable def dueL (n bk : Nat) (wl : List (List Int)) : Nat → List Int
  | 0 => []
  | t + 1 => dueL n bk wl t ++ wl.getD (ring n bk t) []
noncomputable def Below9 (n i : Nat) (f f' : Int → Int) : Prop := ∀ q : Int, q < 110 - 8 * ((n : Int) - (i : Int)) → f' q = f q
theorem Below9.refl {n i : Nat} {f : Int → Int} : Below9 n i f f := fun _ _ => rfl
theorem Below9.put {n i : Nat} {f f' : Int → Int} {o v : Int} (h : Below9 n i f f') (ho : -24 ≤ o) : Below9 n i f fun x => if x = (pAt n i + o).fdiv 4 then v else f' x := fun q hq => by
  show (if q = (pAt n i + o).fdiv 4 then v else f' q) = f q
  rw [fd4]
  unfold pAt
  rw [if_neg (by omega)]
  exact h q hq
structure Done (n bk : Nat) (b : Int) (ml : List (List Int)) (rl : List Int) (f : Int → Int) (i : Nat) (wl : List (List Int)) : Prop where
  h1 : wl.length = i
  h2 : ∀ j r, j < i → rl[nx n bk j]? = some r → f ((pAt n j - 4).fdiv 4) = r
  h3 : ∀ j, j < i → f ((pAt n j - 8).fdiv 4) = pAt n (nx n bk j)
  h4 : ∀ (j : Nat) r l, j < i → rl[j]? = some r → ml[(r - b).toNat]? = some l → wl[j]? = some (l.map fun o => f ((pAt n j + o).fdiv 4))
theorem Done.zero {n bk : Nat} {b : Int} {ml : List (List Int)} {rl : List Int} {f : Int → Int} : Done n bk b ml rl f 0 [] := ⟨rfl, fun _ _ h => absurd h (Nat.not_lt_zero _), fun _ h => absurd h (Nat.not_lt_zero _), fun _ _ _ h => absurd h (Nat.not_lt_zero _)⟩
theorem map_cong {l : List Int} {g g' : Int → Int} (h : ∀ o ∈ l, g o = g' o) : l.map g = l.map g' := List.map_congr_left h
theorem Done.step {n bk i : Nat} {b : Int} {ml : List (List Int)} {rl : List Int} {f f' : Int → Int} {wl : List (List Int)} {r r' : Int} {l : List Int} (D : Done n bk b ml rl f i wl) (hi : i < n) (hb : bk < n) (hn : n ≤ 6) (hB : Below9 n i f f')
    (hm : ∀ l ∈ ml, ∀ o ∈ l, OffOk o) (hr : rl[i]? = some r) (hl : ml[(r - b).toNat]? = some l) (hr' : rl[nx n bk i]? = some r') (hx : 0 ≤ r' ∧ r' < 1000) :
    Done n bk b ml rl (fun x => if x = (pAt n i - 8).fdiv 4 then (pAt n (nx n bk i)).fmod 4294967296 else if x = (pAt n i - 4).fdiv 4 then r'.fmod 4294967296 else f' x) (i + 1) (wl ++ [l.map fun o => f' ((pAt n i + o).fdiv 4)]) := by
  obtain ⟨h1, h2, h3, h4⟩ := D
  have hnx := nx_lt hb hi
  have old : ∀ (j : Nat) (o : Int), j < i → -24 ≤ o → o ≤ -4 → (fun x => if x = (pAt n i - 8).fdiv 4 then (pAt n (nx n bk i)).fmod 4294967296 else if x = (pAt n i - 4).fdiv 4 then r'.fmod 4294967296 else f' x) ((pAt n j + o).fdiv 4) = f ((pAt n j + o).fdiv 4) := fun j o hj ho ho' => by
    simp only [fd4]
    have e := hB ((pAt n j + o) / 4) (by unfold pAt; omega)
    unfold pAt at e ⊢
    rw [if_neg (by omega), if_neg (by omega)]
    exact e
  have hp : ((pAt n (nx n bk i)).fmod 4294967296) = pAt n (nx n bk i) := Int.fmod_eq_of_lt (by unfold pAt; omega) (by unfold pAt; omega)
  have hr9 : r'.fmod 4294967296 = r' := Int.fmod_eq_of_lt hx.1 (by omega)
  refine ⟨by rw [List.length_append, h1]; rfl, fun j q hj hq => ?_, fun j hj => ?_, fun j q l' hj hq hl' => ?_⟩
  · by_cases e : j = i
    · subst e
      rw [hr'] at hq
      cases hq
      show (if (pAt n j - 4).fdiv 4 = (pAt n j - 8).fdiv 4 then _ else _) = _
      rw [if_neg (by simp only [fd4]; unfold pAt; omega), if_pos rfl, hr9]
    · have := old j (-4) (by omega) (by decide) (by decide)
      exact this.trans (h2 j q (by omega) hq)
  · by_cases e : j = i
    · subst e
      show (if (pAt n j - 8).fdiv 4 = (pAt n j - 8).fdiv 4 then _ else _) = _
      rw [if_pos rfl, hp]
    · have := old j (-8) (by omega) (by decide) (by decide)
      exact this.trans (h3 j (by omega))
  · by_cases e : j = i
    · subst e
      rw [hr] at hq
      cases hq
      rw [hl] at hl'
      cases hl'
      rw [List.getElem?_append_right (by omega), h1, Nat.sub_self]
      show some _ = some _
      congr 1
      refine map_cong fun o ho => ?_
      have ho := hm _ (List.mem_of_getElem? hl) o ho
      simp only [fd4]
      unfold pAt OffOk at *
      rw [if_neg (by omega), if_neg (by omega)]
    · rw [List.getElem?_append_left (by omega), h4 j q l' (by omega) hq hl']
      congr 1
      refine map_cong fun o ho => ?_
      have ho := hm _ (List.mem_of_getElem? hl') o ho
      unfold OffOk at ho
      exact (old j o (by omega) (by omega) (by omega)).symm
end
section
open PySem PySem.W PySem.Calls PyProof.Rows PyProof.V PySem.Spec
theorem hfi_list : fillsInplaceSlot (.type "list") "add" (Operator.Add == .Add) = pure false := by
  unfold fillsInplaceSlot
  show (typeLookup (.type "list") (dunderI "add") >>= fun fi => pure (fi.isSome && !isSeqSlot fi)) = pure false
  rw [PySem.F.slot_list_iadd.lookup]
  rfl
theorem hsi_list : seqSlot? (.type "list") (dunderI "add") = pure (some (.builtin "list.__iadd__")) := PySem.seqSlot_of PySem.F.slot_list_iadd.lookup (by decide +kernel)
section
variable {prog : Program} {w : World} {A : Around} {E : Value → Shared → Prop} {s : Shared} {h₀ : Heap} {L D b : Addr} {m : Str → Option Value} {news : List (Addr × Obj)} {g : Obj → List (Addr × Obj)} {vs ws : List Value} {n k : Nat}
/-- a list of the ledger grown in place by another -/
theorem iadd_lis {Q : Value → Shared → Prop} (F : Fr h₀ L s.heap m) (N : News h₀ L s.heap news) (U : UpdF D (lisOf vs n) news g) (hb : (b, lisOf ws k) ∈ news) (hz : vs.length + ws.length ≤ 10000)
    (h : ∀ h' n', Fr h₀ L h' m → News h₀ L h' (g (lisOf (vs ++ ws) n')) → Q (.ref D) { s with heap := h' }) : wpAny (model prog w) A (inplaceOp .Add (.ref D) (.ref b)) Q E s := by
  obtain ⟨pre, post, rfl, hg, ha, hc⟩ := U.split
  have hm := N (D, lisOf vs n) (List.mem_append_right _ (.head _))
  have hb' := N _ hb
  have hl := News.isList N (List.mem_append_right _ (.head _))
  have hl2 := News.isList N hb
  unfold inplaceOp
  refine wpAny_holding ?_
  refine wpAny_bind (wpAny_typeOf hl.typeIs (wpAny_bind (wpAny_of_eq hfi_list ?_)))
  show wpAny _ A (if false = true then _ else _) Q E s
  rw [if_neg Bool.false_ne_true]
  refine wpAny_bind (wpAny_binaryOp1_none (nm := "add") hl.typeIs hl2.typeIs noFill_list_add ?_)
  refine wpAny_bind (wpAny_of_eq hsi_list ?_)
  refine wpAny_bind (wpAny_rule ?_)
  refine call_meets PySem.F.slot_list_iadd hl.typeIs PySem.F.entry_list_iadd (PySem.F.args_list_iadd_2 _ _)
    (PySem.AutoSeq1.list___iadd___list_list_0 D vs.toArray n b ws.toArray k ?_ (by rw [sizeLine_eq]; simp; omega) (by rw [sizeLine_eq]; simp; omega)) ⟨hm.1, hb'.1, ?_⟩
  · simp [Builtin.List.listTooLong, sizeLine]
    omega
  · refine h _ (if (vs ++ ws).toArray.size == vs.toArray.size then n else n + 1) (F.change (Heap.SameBut.update ..) hm.2.1 hm.2.2) ?_
    rw [hg]
    exact ki_turn (n' := if (vs ++ ws).toArray.size == vs.toArray.size then n else n + 1) _ N ha hc (by simp) rfl
end
end
section
open PySem PySem.W PyProof.Rows
theorem rst_22 {M : Model} {A : Around} {Q : Unit → Shared → Prop} {E : Value → Shared → Prop} {s : Shared} (h : Q () s) : wpAny M A (Sem.pure ()) Q E s := by
  w_top off
  first | walk1 | exact wpAny_pure h
end
section
open PySem PySem.W PySem.Calls PyProof.Rows PyProof.V
theorem fill_B2 : MineH.K = MineH.K ∧ PySem.Challenge.rw_pb0376_02 = PySem.Challenge.rw_pb0376_02 := by k_fill; exact ⟨rfl, rfl⟩
local macro_rules | `(tactic| walk_at "call ref") => `(tactic| (k_here; refine held ?_))
local macro_rules | `(tactic| walk_at "getMethod ref") => `(tactic| (k_here; (with_reducible show wpAny _ _ (getMethod (Value.ref _) (Str.ofString "get") _) _ _ _); k_dflt (refine' dict_method ?zN ?zm ?zd ?_; (case zN => k_asm); (case zm => k_mem); (case zd => with_reducible assumption)); k_whole))
local macro_rules | `(tactic| walk_at "call builtin:dict.get") => `(tactic| (k_here; k_dflt (refine' dict_get ?zN ?zm ?zd ?zl ?zv ?_; (case zN => k_asm); (case zm => k_mem); (case zd => with_reducible assumption); (case zl => with_reducible assumption); (case zv => with_reducible assumption)); k_whole))
/-- the one module of the law's machine -/
structure OneMod (w : World) (news : List (Addr × Obj)) (ld : Addr) (b : Int) (n : Nat) (kvs : List (Int × Value)) where
  lo : Addr
  dlo : Addr
  ol : Obj
  ob : Addr
  dob : Addr
  oo : Obj
  rw : Addr
  mp : Addr
  rvs : List Value
  nl : Nat
  kr : Nat
  om : Obj
  h1 : (ld, lisOf [.ref lo] nl) ∈ news
  h2 : (lo, instObj 59 dlo) ∈ news
  h3 : (dlo, ol) ∈ news
  h4 : LoadB ol b ob
  h5 : (ob, instObj 414 dob) ∈ news
  h6 : (dob, oo) ∈ news
  h7 : ObjB oo rw mp
  h8 : (rw, lisOf rvs kr) ∈ news
  h9 : rvs.length = n
  h10 : (mp, om) ∈ news
  h11 : om.IsDictOf (intKind P2 w) kvs
  h12 : (mp == sysModules) = false
  h13 : n ≤ 100
noncomputable def OneMod.mono {w : World} {l l' : List (Addr × Obj)} {ld : Addr} {b : Int} {n : Nat} {kvs : List (Int × Value)} (hs : ∀ p ∈ l, p ∈ l') (O : OneMod w l ld b n kvs) : OneMod w l' ld b n kvs :=
  { O with h1 := hs _ O.h1, h2 := hs _ O.h2, h3 := hs _ O.h3, h5 := hs _ O.h5, h6 := hs _ O.h6, h8 := hs _ O.h8, h10 := hs _ O.h10 }
section
variable {w : World} {A₀ : Around} {base h₀ : Heap} {outer : List Env} {env : Env} {L : Addr} {m mg mb : Str → Option Value} {mean : ExcName → Option Value} {s : Shared} {R : Result → Shared → Prop}
  {d u : Nat} {gs : Option (List Code)} {M dM mem hp cpu ld out gv : Addr} {om : Obj} {limit row b : Int} {tr : Tok} {n : Nat} {kvs : List (Int × Value)} {news : List (Addr × Obj)}
theorem module_at_B (C : Cb w A₀ base h₀ outer env L m mg mb mean s.heap) (hdp : d < 800) (N : News h₀ L s.heap news) (h1 : (M, instObj 393 dM) ∈ news) (h2 : (dM, om) ∈ news) (hom : MachB om mem hp cpu ld out gv limit)
  (O : OneMod w news ld b n kvs) (hb : b ≤ row ∧ row < b + n)
  (k : ∀ h' tk, Fr h₀ L h' m → News h₀ L h' news → R (.ok (.ret (.ref O.lo))) { s with heap := h', toks := tk }) :
  codeAny (model P2 w) (mkA none d env outer gs u) (.call (.ref 28) ⟨[.ref M, .int row tr], []⟩) R s := by
  obtain ⟨B, F, X, T, hf, hke⟩ := C
  obtain ⟨lo, dlo, ol, ob, dob, oo, rw, mp, rvs, nl, kr, omp, g1, g2, g3, g4, g5, g6, g7, g8, g9, g10, g11, g12, g13⟩ := O
  dsimp only at k
  obtain ⟨x0, y0, t0, x1, y1, t1, x2, y2, t2, x3, y3, x4, y4, x5, y5, x6, y6, x7, y7, x8, y8, x9, y9, t9, x10, y10, t10, rfl⟩ := hom
  obtain ⟨z0, z1, z2, z3, z4, z5, z6, z7, z8, z9, z10, z11, z12, z13, z14, z15, z16, rfl⟩ := g4
  obtain ⟨v0, v1, v2, v3, v4, v5, v6, v7, v8, v9, v10, v11, v12, v13, v14, v15, v16, v17, v18, v19, v20, v21, v22, v23, v24, v25, v26, v27, v28, v29, v30, v31, v32, v33, v34, v35, v36, rfl⟩ := g7
  k_enter
  k_steps
  (rename Fr _ _ _ _ => F1); (rename News _ _ _ _ => N1)
  refine' iter_lis (lo := lisOf [.ref lo] nl) (vs := [.ref lo]) (fun m₀ r m n => n = news ∧ r = [Value.ref lo] ∧ m = m₀) rfl F1 N1 ?zm rfl rfl ⟨rfl, rfl, rfl⟩ ?zt ?zd
  (case zm => k_mem)
  (case zt =>
    clear F1 N1
    rintro I hI v r m₁ n it h9 tk9 ⟨rfl, hr, rfl⟩ hit F2 N2
    obtain ⟨rfl, rfl⟩ := List.cons.inj hr
    k_steps
    all_goals first
      | (exfalso; omega)
      | ((rename Fr h₀ L _ _ => kF); (rename News h₀ L _ _ => kN); exact k _ _ kF (News.sub kN fun p hp => .tail _ hp)))
  (case zd =>
    rintro m₁ n h9 tk9 ⟨rfl, hr, rfl⟩ F2 N2
    cases hr)
theorem map_at_B {x : Addr} (C : Cb w A₀ base h₀ outer env L m mg mb mean s.heap) (hdp : d < 700) (N : News h₀ L s.heap news) (h1 : (M, instObj 393 dM) ∈ news) (h2 : (dM, om) ∈ news) (hom : MachB om mem hp cpu ld out gv limit)
  (O : OneMod w news ld b n kvs) (hb : b ≤ row ∧ row < b + n) (hx : valueAt kvs (row - b) = some (.ref x))
  (k : ∀ h' tk, Fr h₀ L h' m → News h₀ L h' news → R (.ok (.ret (.ref x))) { s with heap := h', toks := tk }) :
  codeAny (model P2 w) (mkA none d env outer gs u) (.call (.ref 35) ⟨[.ref M, .int row tr], []⟩) R s := by
  obtain ⟨B, F, X, T, hf, hke⟩ := C
  k_enter
  k_steps
  refine Held.of (wpAny_call (module_at_B ⟨by k_asm, by k_asm, by k_asm, by k_asm, rfl, rfl⟩ (by (try simp only [depth_deeper]); omega) (by k_asm) h1 h2 hom O hb ?_))
  obtain ⟨lo, dlo, ol, ob, dob, oo, rw, mp, rvs, nl, kr, omp, g1, g2, g3, g4, g5, g6, g7, g8, g9, g10, g11, g12, g13⟩ := O
  obtain ⟨z0, z1, z2, z3, z4, z5, z6, z7, z8, z9, z10, z11, z12, z13, z14, z15, z16, rfl⟩ := g4
  obtain ⟨v0, v1, v2, v3, v4, v5, v6, v7, v8, v9, v10, v11, v12, v13, v14, v15, v16, v17, v18, v19, v20, v21, v22, v23, v24, v25, v26, v27, v28, v29, v30, v31, v32, v33, v34, v35, v36, rfl⟩ := g7
  k_whole
  intro h5 tk5 F5 N5
  try dsimp only
  try k_sweep
  k_steps
  (rename Fr h₀ L _ _ => kF); (rename News h₀ L _ _ => kN)
  exact k _ _ kF (News.sub kN fun p hp => (by (repeat first | exact hp | refine List.Mem.tail _ ?_)))
end
end
section
open PySem PySem.W PyProof.Rows
theorem rst_23 {M : Model} {A : Around} {Q : Unit → Shared → Prop} {E : Value → Shared → Prop} {s : Shared} (h : Q () s) : wpAny M A (Sem.pure ()) Q E s := by
  w_top off
  first | walk1 | exact wpAny_pure h
end
section
open PySem PySem.W PyProof.Rows
theorem rst_24 {M : Model} {A : Around} {Q : Unit → Shared → Prop} {E : Value → Shared → Prop} {s : Shared} (h : Q () s) : wpAny M A (Sem.pure ()) Q E s := by
  w_top off
  first | walk1 | exact wpAny_pure h
end
section
open PySem PySem.W PySem.Calls PyProof.Rows PyProof.V
theorem fill_B3 : MineH.K = MineH.K ∧ PySem.Challenge.rw_pb0376_02 = PySem.Challenge.rw_pb0376_02 := by k_fill; exact ⟨rfl, rfl⟩
local macro_rules | `(tactic| walk_at "call ref") => `(tactic| (k_here; refine held ?_))
local macro_rules | `(tactic| walk_at "pyIter ref") => `(tactic| refine held ?_)
local macro_rules | `(tactic| walk_at "exec While BoolOp cons nil") => `(tactic| refine held ?_)
local macro_rules | `(tactic| walk_at "exec For Name Call cons nil") => `(tactic| (k_here; (rename Fr _ _ _ _ => lF'); (with_unfolding_all refine' For_invVF lF' ?k1 ?k2 ?_; (case k1 => exact rfl); (case k2 => exact rfl); k_whole)))
local macro_rules | `(tactic| walk_at "WhileStep2") => `(tactic| ((with_reducible show WhileStep2 _ _ _ _ _ _ (Flow.ret _) _); dsimp only [WhileStep2]))
theorem lt_true {prog : Program} {w : World} {A : Around} {E : Value → Shared → Prop} {s : Shared} {a b : Int} {t t' : Tok} {Q : Value → Shared → Prop} (hn : a < b) (h : Q (.bool true) s) : wpAny (model prog w) A (compareOp .Lt (.int a t) (.int b t')) Q E s := by
  refine PyProof.Rows.lt_int ?_
  rw [decide_eq_true hn]
  exact h
theorem lt_false {prog : Program} {w : World} {A : Around} {E : Value → Shared → Prop} {s : Shared} {a b : Int} {t t' : Tok} {Q : Value → Shared → Prop} (hn : b ≤ a) (h : Q (.bool false) s) : wpAny (model prog w) A (compareOp .Lt (.int a t) (.int b t')) Q E s := by
  refine PyProof.Rows.lt_int ?_
  rw [decide_eq_false (show ¬ a < b by omega)]
  exact h
local macro_rules | `(tactic| walk_at "compareOp Lt int int") => `(tactic| (k_here; first | refine lt_true (by omega) ?_ | refine lt_false (by omega) ?_))
theorem map_self4 (m : Str → Option Value) (a b c d : Str) : m = fun y => if y = a then m a else if y = b then m b else if y = c then m c else if y = d then m d else m y := by
  funext y
  repeat (first | rfl | (split; (rename_i h; rw [h])))
theorem map_four {m : Str → Option Value} {a b c d : Str} {u1 u2 u3 u4 v1 v2 v3 v4 : Option Value} :
    (fun y => if y = a then u1 else if y = b then u2 else if y = c then u3 else if y = d then u4 else if y = a then v1 else if y = b then v2 else if y = c then v3 else if y = d then v4 else m y) = fun y => if y = a then u1 else if y = b then u2 else if y = c then u3 else if y = d then u4 else m y := by
  funext y
  by_cases h1 : y = a
  · simp only [if_pos h1]
  by_cases h2 : y = b
  · simp only [if_neg h1, if_pos h2]
  by_cases h3 : y = c
  · simp only [if_neg h1, if_neg h2, if_pos h3]
  by_cases h4 : y = d
  · simp only [if_neg h1, if_neg h2, if_neg h3, if_pos h4]
  · simp only [if_neg h1, if_neg h2, if_neg h3, if_neg h4]
/-- where a word lies -/
noncomputable abbrev at32 (a : Int) : Int := a.fmod 4294967296
/-- the words of the frames, told by fuel -/
noncomputable def rootsK (f : Int → Int) (mo : Int → List Int) : Nat → Int → Int → List Int
  | 0, _, _ => []
  | t + 1, row, fp => if row = 0 then [] else (mo row).map (fun o => f ((at32 (fp + o)).fdiv 4)) ++ rootsK f mo t (f ((at32 (fp - 4)).fdiv 4)) (f ((at32 (fp - 8)).fdiv 4))
theorem roots_zero {f : Int → Int} {mo : Int → List Int} (t : Nat) (fp : Int) : rootsK f mo t 0 fp = [] := by cases t <;> rfl
/-- what holds along the ring -/
noncomputable def RingOk (news : List (Addr × Obj)) (b : Int) (n : Nat) (kvs : List (Int × Value)) (f : Int → Int) (mo : Int → List Int) (I : Int → Int → Prop) : Prop :=
  ∀ row fp, I row fp → row ≠ 0 → (b ≤ row ∧ row < b + n) ∧ (∃ x vs k, valueAt kvs (row - b) = some (.ref x) ∧ (x, lisOf vs k) ∈ news ∧ IntsAre vs (mo row) ∧ vs.length ≤ 50) ∧
    (∀ o ∈ mo row, 0 ≤ at32 (fp + o) ∧ at32 (fp + o) < 464) ∧ (0 ≤ at32 (fp - 4) ∧ at32 (fp - 4) < 464) ∧ (0 ≤ at32 (fp - 8) ∧ at32 (fp - 8) < 464) ∧ I (f ((at32 (fp - 4)).fdiv 4)) (f ((at32 (fp - 8)).fdiv 4))
section
variable {w : World} {A₀ : Around} {base h₀ : Heap} {outer : List Env} {env : Env} {L : Addr} {m mg mb : Str → Option Value} {mean : ExcName → Option Value} {s : Shared} {R : Result → Shared → Prop}
  {d u : Nat} {gs : Option (List Code)} {M dM mem hp cpu ld out gv wd dm dc rg rows : Addr} {om omem oc ow : Obj} {limit row b fp : Int} {tr tf : Tok} {n nr c : Nat} {kvs : List (Int × Value)} {news : List (Addr × Obj)} {rvs : List Value} {f : Int → Int} {mo : Int → List Int} {I : Int → Int → Prop}
theorem most_B (C : Cb w A₀ base h₀ outer env L m mg mb mean s.heap) (hdp : d < 800) (N : News h₀ L s.heap news) (h1 : (M, instObj 393 dM) ∈ news) (h2 : (dM, om) ∈ news) (hom : MachB om mem hp cpu ld out gv limit)
  (h3 : (mem, instObj 301 dm) ∈ news) (h4 : (dm, omem) ∈ news) (hmem : MemB omem 464 wd)
  (k : ∀ h' tk t, Fr h₀ L h' m → News h₀ L h' news → R (.ok (.ret (.int 34 t))) { s with heap := h', toks := tk }) :
  codeAny (model P2 w) (mkA none d env outer gs u) (.call (.ref 362) ⟨[.ref M], []⟩) R s := by
  obtain ⟨B, F, X, T, hf, hke⟩ := C
  obtain ⟨x0, y0, t0, x1, y1, t1, x2, y2, t2, x3, y3, x4, y4, x5, y5, x6, y6, x7, y7, x8, y8, x9, y9, t9, x10, y10, t10, rfl⟩ := hom
  obtain ⟨m0, m1, m2, m3, m4, rfl⟩ := hmem
  k_enter
  k_steps
  (rename Fr h₀ L _ _ => kF); (rename News h₀ L _ _ => kN)
  exact k _ _ _ kF kN
theorem stack_roots_ok (C : Cb w A₀ base h₀ outer env L m mg mb mean s.heap) (hdp : d < 600) (N : News h₀ L s.heap news) (h1 : (M, instObj 393 dM) ∈ news) (h2 : (dM, om) ∈ news) (hom : MachB om mem hp cpu ld out gv limit)
  (h3 : (mem, instObj 301 dm) ∈ news) (h4 : (dm, omem) ∈ news) (hmem : MemB omem 464 wd) (h5 : (wd, ow) ∈ news) (hW : Words P2 w ow f c) (hwd : (wd == sysModules) = false)
  (h6 : (cpu, instObj 245 dc) ∈ news) (h7 : (dc, oc) ∈ news) (hcpu : CpuB oc mem rg row rows) (h8 : (rg, lisOf rvs nr) ∈ news) (hrv : rvs[(11 : Int).toNat]? = some (.int fp tf)) (hrl : rvs.length ≤ 100)
  (O : OneMod w news ld b n kvs) (hR : RingOk news b n kvs f mo I) (hI : I row fp)
  (k : ∀ h' tk q vals nv, Fr h₀ L h' m → News h₀ L h' ((q, lisOf vals nv) :: news) → (∀ p ∈ news, p.1 < q) → IntsAre vals (rootsK f mo 34 row fp) → R (.ok (.ret (.ref q))) { s with heap := h', toks := tk }) :
  codeAny (model P2 w) (mkA none d env outer gs u) (.call (.ref 42) ⟨[.ref M], []⟩) R s := by
  obtain ⟨B, F, X, T, hf, hke⟩ := C
  have hom0 := hom
  have hmem0 := hmem
  obtain ⟨x0, y0, t0, x1, y1, t1, x2, y2, t2, x3, y3, x4, y4, x5, y5, x6, y6, x7, y7, x8, y8, x9, y9, t9, x10, y10, t10, rfl⟩ := hom
  obtain ⟨m0, m1, m2, m3, m4, rfl⟩ := hmem
  obtain ⟨a0, b0, a1, b1, a2, b2, c2, a3, b3, c3, a4, b4, c4, a5, b5, c5, a6, b6, c6, a7, b7, c7, a8, b8, rfl⟩ := hcpu
  k_enter
  k_steps
  refine Held.of ?_
  (rename Fr _ _ _ _ => F1); (rename News _ _ _ _ => N1)
  (try dsimp only at F1 N1)
  refine grabN N1 fun wl hD => ?_
  subst hD
  refine grabF F1 fun g9 L9 h9 m9 eg eL eh em => ?_
  subst eg eL eh
  rw [← em] at F1
  refine' While_inv2 (fun fu m₁ nx => ∃ vals dn nv row9 fp9 tn9 u1 u2 u3 u4, nx = (wl, lisOf vals nv) :: news ∧ IntsAre vals dn ∧ dn ++ rootsK f mo fu row9 fp9 = rootsK f mo 34 row fp ∧ I row9 fp9 ∧ fu + tn9 = 34 ∧ vals.length ≤ 100 * tn9 ∧
      (∃ v1, u1 = some (Value.int (tn9 : Int) v1)) ∧ (∃ v2, u2 = some (Value.int fp9 v2)) ∧ (∃ v3, u3 = some (Value.int row9 v3)) ∧ m₁ = fun y => if y = Str.ofString "turns" then u1 else if y = Str.ofString "fp" then u2 else if y = Str.ofString "row" then u3 else if y = Str.ofString "offset" then u4 else m9 y)
    F1 N1 ⟨[], [], 0, row, fp, 0, _, _, _, _, rfl, .nil, rfl, hI, rfl, Nat.zero_le _, ⟨_, by rw [em]; rfl⟩, ⟨_, by rw [em]; rfl⟩, ⟨_, by rw [em]; rfl⟩, map_self4 _ _ _ _ _⟩ ?zt ?zp
  (case zp => with_unfolding_all passes_own)
  (case zt =>
    clear F1 N1
    subst em
    rintro fu m₁ nx h₁ tk₁ F₁ N₁ ⟨vals, dn, nv, row9, fp9, tn9, u1, u2, u3, u4, rfl, hv9, hd9, hI9, hf9, hl9, ⟨v1, rfl⟩, ⟨v2, rfl⟩, ⟨v3, rfl⟩, rfl⟩
    by_cases hr0 : row9 = 0
    · subst hr0
      rw [roots_zero, List.append_nil] at hd9
      k_steps
      (rename News h₀ L _ _ => kN); (rename Fr h₀ L _ _ => kF)
      exact k _ _ _ _ _ kF kN (by assumption) (hd9 ▸ hv9)
    · obtain ⟨hb9, ⟨x9, vs9, k9, hx1, hx2, hx3, hx4⟩, ho9, ha9, hc9, hn9⟩ := hR row9 fp9 hI9 hr0
      k_steps
      all_goals first
        | (exfalso; omega)
        | skip
      refine Held.of (wpAny_call (most_B ⟨by k_asm, by k_asm, by k_asm, by k_asm, rfl, rfl⟩ (by (try simp only [depth_deeper]); omega) (by k_asm) (.tail _ h1) (.tail _ h2) hom0 (.tail _ h3) (.tail _ h4) hmem0 ?_))
      k_whole
      intro h10 tk10 t10' F10 N10
      try dsimp only
      try k_sweep
      by_cases ht : tn9 = 34
      · have hfu : fu = 0 := by omega
        subst hfu
        rw [show rootsK f mo 0 row9 fp9 = [] from rfl, List.append_nil] at hd9
        k_steps
        (rename News h₀ L _ _ => kN); (rename Fr h₀ L _ _ => kF)
        exact k _ _ _ _ _ kF kN (by assumption) (hd9 ▸ hv9)
      · obtain ⟨f', rfl⟩ : ∃ f', fu = f' + 1 := ⟨fu - 1, by omega⟩
        k_steps
        refine Held.of (wpAny_call (map_at_B ⟨by k_asm, by k_asm, by k_asm, by k_asm, rfl, rfl⟩ (by (try simp only [depth_deeper]); omega) (by k_asm) (.tail _ h1) (.tail _ h2) hom0 (O.mono fun p hp => .tail _ hp) hb9 hx1 ?_))
        k_whole
        intro h11 tk11 F11 N11
        try dsimp only
        try k_sweep
        k_steps
        refine Held.of ?_
        have hml : (mo row9).length ≤ 50 := by rw [← hx3.length]; exact hx4
        (rename Fr _ _ _ _ => F12); (rename News _ _ _ _ => N12)
        refine' iter_lis (lo := lisOf vs9 k9) (vs := vs9) (fun m₀ r m nn => ∃ vals' nv' u5 rs done, nn = (wl, lisOf vals' nv') :: news ∧ mo row9 = done ++ rs ∧ IntsAre r rs ∧ IntsAre vals' (dn ++ done.map (fun o => f ((at32 (fp9 + o)).fdiv 4))) ∧ vals'.length = vals.length + done.length ∧ m = fun y => if y = Str.ofString "offset" then u5 else m₀ y)
          rfl F12 N12 ?zm2 rfl rfl ⟨vals, nv, _, mo row9, [], rfl, rfl, hx3, by simpa using hv9, rfl, map_self _ _⟩ ?zt2 ?zd2
        (case zm2 => exact .tail _ hx2)
        (case zt2 =>
          clear F12 N12
          rintro J hJ v r m₁ nn it h13 tk13 ⟨vals', nv', u5, rs, done, rfl, hms, hrs, hv', hl', rfl⟩ hit F13 N13
          cases hrs with
          | cons o ot hrs =>
            rename_i rs'
            have hmo := ho9 o (by rw [hms]; simp)
            have hdl := congrArg List.length hms
            simp only [List.length_append, List.length_cons] at hdl
            have hwJ : @LT.lt Nat _ wl J := hJ _ (.head _)
            k_steps
            refine Held.of (wpAny_call (word_ok (by k_asm) (by k_asm) (by k_asm) (by k_asm) (by k_asm) rfl rfl (by (try simp only [depth_deeper]); omega) (.tail _ (.tail _ h3)) (.tail _ (.tail _ h4)) (.tail _ (.tail _ h5)) hW hwd hmo.1 hmo.2 ?_))
            k_whole
            intro h14 tk14 tv F14 N14
            try dsimp only
            try k_sweep
            k_steps
            (rename News _ _ _ _ => kN)
            (try simp only [List.push_toArray] at kN)
            refine UnrEnd.intro (by assumption) kN ((wl, lisOf (vals' ++ [Value.int (f ((at32 (fp9 + o)).fdiv 4)) tv]) (nv' + 1)) :: news) (fun p hp => hp) ?_ ⟨.tail _ hx2, _, _, _, rs', done ++ [o], rfl, by rw [hms]; simp, hrs, ?_, ?_, map_again⟩
            · simp only [List.forall_mem_cons]
              exact ⟨Nat.ne_of_lt hwJ, fun p hp => Nat.ne_of_lt (hJ p (.tail _ hp))⟩
            · rw [List.map_append, ← List.append_assoc]
              exact IntsAre.append hv' (.cons _ tv .nil)
            · simp only [List.length_append, List.length_cons, List.length_nil]
              omega)
        (case zd2 =>
          clear F12 N12
          rintro m₁ nn h13 tk13 ⟨vals', nv', u5, rs, done, rfl, hms, hrs, hv', hl', rfl⟩ F13 N13
          cases hrs
          rw [List.append_nil] at hms
          subst hms
          k_steps
          refine Held.of (wpAny_call (word_ok (by k_asm) (by k_asm) (by k_asm) (by k_asm) (by k_asm) rfl rfl (by (try simp only [depth_deeper]); omega) (.tail _ h3) (.tail _ h4) (.tail _ h5) hW hwd ha9.1 ha9.2 ?_))
          k_whole
          intro h14 tk14 tv F14 N14
          try dsimp only
          try k_sweep
          k_steps
          refine Held.of (wpAny_call (word_ok (by k_asm) (by k_asm) (by k_asm) (by k_asm) (by k_asm) rfl rfl (by (try simp only [depth_deeper]); omega) (.tail _ h3) (.tail _ h4) (.tail _ h5) hW hwd hc9.1 hc9.2 ?_))
          k_whole
          intro h15 tk15 tv2 F15 N15
          try dsimp only
          try k_sweep
          k_steps
          (rename News _ _ _ _ => kN); (rename Fr _ _ _ _ => kF)
          rw [show rootsK f mo (f' + 1) row9 fp9 = (mo row9).map (fun o => f ((at32 (fp9 + o)).fdiv 4)) ++ rootsK f mo f' (f ((at32 (fp9 - 4)).fdiv 4)) (f ((at32 (fp9 - 8)).fdiv 4)) from if_neg hr0, ← List.append_assoc] at hd9
          exact ⟨_, _, _, _, f', rfl, kF, kN, by omega, vals', _, nv', _, _, tn9 + 1, _, _, _, _, rfl, hv', hd9, hn9, by omega, by omega, ⟨_, rfl⟩, ⟨_, rfl⟩, ⟨_, rfl⟩, map_four⟩))
end
end
section
open PySem PySem.W PyProof.Rows
theorem rst_25 {M : Model} {A : Around} {Q : Unit → Shared → Prop} {E : Value → Shared → Prop} {s : Shared} (h : Q () s) : wpAny M A (Sem.pure ()) Q E s := by
  w_top off
  first | walk1 | exact wpAny_pure h
end
section
open PySem PySem.W PyProof.Rows
theorem rst_26 {M : Model} {A : Around} {Q : Unit → Shared → Prop} {E : Value → Shared → Prop} {s : Shared} (h : Q () s) : wpAny M A (Sem.pure ()) Q E s := by
  w_top off
  first | walk1 | exact wpAny_pure h
end
section
open PySem PySem.W PySem.Calls PyProof.Rows PyProof.V
theorem fill_A3 : MineH.K = MineH.K ∧ PySem.Challenge.rw_pb0376_02 = PySem.Challenge.rw_pb0376_02 := by k_fill; exact ⟨rfl, rfl⟩
section
variable {w : World} {A₀ : Around} {base h₀ : Heap} {outer : List Env} {env : Env} {L : Addr} {m mg mb : Str → Option Value} {mean : ExcName → Option Value} {s : Shared} {R : Result → Shared → Prop}
  {d u : Nat} {gs : Option (List Code)} {news : List (Addr × Obj)} {M dM mem hp cpu ld out gv : Addr} {om : Obj} {limit : Int} {t0 : Tok}
theorem add_data_ok (C : Cb w A₀ base h₀ outer env L m mg mb mean s.heap) (hdp : d < 600) (N : News h₀ L s.heap ((dM, om) :: news)) (hne : ∀ p ∈ news, p.1 ≠ dM)
  (h1 : (M, instObj 393 dM) ∈ news) (hom : MachB om mem hp cpu ld out gv limit)
  (k : ∀ h' tk t om', Fr h₀ L h' m → News h₀ L h' ((dM, om') :: news) → MachB om' mem hp cpu ld out gv limit → R (.ok (.ret (.int 64 t))) { s with heap := h', toks := tk }) :
  codeAny (model P2 w) (mkA none d env outer gs u) (.call (.ref 341) ⟨[.ref M, .int 0 t0], []⟩) R s := by
  obtain ⟨B, F, X, T, hf, hke⟩ := C
  obtain ⟨x0, y0, t0, x1, y1, t1, x2, y2, t2, x3, y3, x4, y4, x5, y5, x6, y6, x7, y7, x8, y8, x9, y9, t9, x10, y10, t10, rfl⟩ := hom
  k_enter
  k_steps
  (rename News h₀ L _ _ => kN); (rename Fr h₀ L _ _ => kF)
  exact k _ _ _ _ kF kN ⟨_, _, _, _, _, _, _, _, _, _, _, _, _, _, _, _, _, _, _, _, _, _, _, _, _, _, _, rfl⟩
end
end
section
open PySem PySem.W PySem.Calls PyProof.Rows PyProof.V PySem.Spec
section
variable {prog : Program} {w : World} {A : Around} {E : Value → Shared → Prop} {R : Result → Shared → Prop} {s : Shared}
theorem compTurn_flat0 (elt t1 i1 t2 i2 : Expr) (scope : Scope) (pos : Pos) (it acc : Value) (env : Env) :
    compTurn (.ListComp elt [⟨t1, i1, [], 0⟩, ⟨t2, i2, [], 0⟩] scope pos) 0 it acc env = (standAt i1.pos >>= fun _ => pyNext it >>= fun r => match r with
      | none => pure (.done .next)
      | some v => letOwnedTupleGo t1 it v >>= fun _ => assign t1 env v >>= fun _ =>
        eval i2 env >>= fun x => standAt i2.pos >>= fun _ => foldedSetIterable i2 env x >>= fun x => holding [x] (pyIter x) >>= fun i =>
          runOwn (.compStart (.ListComp elt [⟨t1, i1, [], 0⟩, ⟨t2, i2, [], 0⟩] scope pos) 1 i acc env) env >>= fun _ =>
          again (.compLoop (.ListComp elt [⟨t1, i1, [], 0⟩, ⟨t2, i2, [], 0⟩] scope pos) 0 it acc env)) := by rfl
theorem compTurn_flat1 (elt t1 i1 t2 i2 : Expr) (scope : Scope) (pos : Pos) (it acc : Value) (env : Env) :
    compTurn (.ListComp elt [⟨t1, i1, [], 0⟩, ⟨t2, i2, [], 0⟩] scope pos) 1 it acc env = (standAt i2.pos >>= fun _ => pyNext it >>= fun r => match r with
      | none => pure (.done .next)
      | some v => letOwnedTupleGo t2 it v >>= fun _ => assign t2 env v >>= fun _ =>
        (eval elt env >>= fun x => call (.builtin "list.append") [acc, x] >>= fun _ => pure ()) >>= fun _ =>
          again (.compLoop (.ListComp elt [⟨t1, i1, [], 0⟩, ⟨t2, i2, [], 0⟩] scope pos) 1 it acc env)) := by rfl
theorem codeAny_compStart1 {elt t1 i1 t2 i2 scope pos it acc env}
    (h0 : codeAny (model prog w) A (.compLoop (.ListComp elt [⟨t1, i1, [], 0⟩, ⟨t2, i2, [], 0⟩] scope pos) 1 it acc env) R s)
    (h : wpAny (model prog w) A (pyIter it) (fun it' s' => codeAny (model prog w) A (.compLoop (.ListComp elt [⟨t1, i1, [], 0⟩, ⟨t2, i2, [], 0⟩] scope pos) 1 it' acc env) R s')
      (notedBy (model prog w) A env fun x s' => R (.error x) s') s) :
    codeAny (model prog w) A (.compStart (.ListComp elt [⟨t1, i1, [], 0⟩, ⟨t2, i2, [], 0⟩] scope pos) 1 it acc env) R s := by
  refine codeAny_of_tree ?_
  show wpAny _ _ ((compStart (.ListComp elt [⟨t1, i1, [], 0⟩, ⟨t2, i2, [], 0⟩] scope pos) 1 it acc env).onRaise (fun x => do noteFrame x env; standAt theWindowsPlace)) _ _ s
  refine wpAny_notedAt ?_
  unfold compStart
  show wpAny _ _ (ask >>= _) _ _ s
  refine wpAny_bind (wpAny_askSetting (wpAny_ite ?_))
  split
  · first
      | exact wpAny_bind (wpAny_pure (wpAny_pure (And.intro rfl h0)))
      | exact wpAny_pure (And.intro rfl h0)
  · first
      | exact wpAny_bind (wpAny_rule (wpAny_bind (wpAny_standAt (wpAny_bind (wpAny_mono h (fun it' s' h' => wpAny_pure (And.intro rfl h')) fun _ _ x => x)))))
      | (refine wpAny_bind (wpAny_rule ?_); show wpAny _ _ (standAt i2.pos >>= _) _ _ s; exact wpAny_bind (wpAny_standAt (wpAny_bind (wpAny_mono h (fun it' s' h' => wpAny_pure (And.intro rfl h')) fun _ _ x => x))))
/-- the inner loop of a comprehension of two clauses: its items are appended -/
theorem flat_in {x y : Str} {px py pe : Pos} {i1 i2 : Expr} {scope : Scope} {pos : Pos} {J r D : Addr} {cenv : Env} {m : Str → Option Value} {items : Array Value} {ys : Array Value} (hh : A.handled = none)
    (hk : cenv.scope.kind = .function) (hy : cenv.kindOf y = some .local) (hd : (y == ("__debug__" : Str)) = false)
    (hp : (cenv.scope.kind == .class || (cenv.scope.kind == .module && cenv.locals != cenv.globals)) = false)
    (hDC : D ≠ cenv.locals) (hDJ : D ≠ J) (hDr : D ≠ r) (hCJ : cenv.locals ≠ J) (hCr : cenv.locals ≠ r) (hJr : J ≠ r)
    (hn : s.heap.Ns cenv.locals m) (hJ : s.heap.IsListIter J r 0) (hr : s.heap.IsList r items) (hD : s.heap.PlainList D ys) (hsz : ys.size + items.size ≤ sizeLine)
    (hR : ∀ h' m', h'.Ns cenv.locals m' → h'.PlainList D (ys ++ items) → (∀ b o, b ≠ cenv.locals → b ≠ J → b ≠ D → s.heap.get? b = some o → h'.get? b = some o) → ∀ tk, R (.ok .next) { s with heap := h', toks := tk }) :
    codeAny (model prog w) A (.compLoop (.ListComp (.Name y pe) [⟨.Name x px, i1, [], 0⟩, ⟨.Name y py, i2, [], 0⟩] scope pos) 1 (.ref J) (.ref D) cenv) R s := by
  refine codeAny_loop rfl (fun k s' => ∃ h' tk m' j, s' = { s with heap := h', toks := tk } ∧ h'.IsListIter J r j ∧ h'.IsList r items ∧ h'.PlainList D (ys ++ (items.toList.take j).toArray) ∧ h'.Ns cenv.locals m' ∧ j ≤ items.size ∧
      k = items.size + 1 - j ∧ (∀ b o, b ≠ cenv.locals → b ≠ J → b ≠ D → s.heap.get? b = some o → h'.get? b = some o)) (fun k s' hI => ?_) (items.size + 1)
    ⟨s.heap, s.toks, m, 0, rfl, hJ, hr, by simpa using hD, hn, Nat.zero_le _, rfl, fun _ _ _ _ _ e => e⟩
  obtain ⟨H, tk, m', j, rfl, hJ', hr', hD', hn', hj, rfl, hkp⟩ := hI
  show wpAny _ _ ((compTurn (.ListComp (.Name y pe) [⟨.Name x px, i1, [], 0⟩, ⟨.Name y py, i2, [], 0⟩] scope pos) 1 (.ref J) (.ref D) cenv).onRaise (fun x => do noteFrame x cenv; theTreesLotGoes x)) _ _ _
  refine wpAny_noted ?_
  rw [compTurn_flat1]
  refine wpAny_bind (wpAny_standAt (wpAny_bind ?_))
  by_cases hlt : j < items.size
  · refine wpAny_pyNext_list_item hJ' hr' (x := items[j]) (by simp [hlt]) fun h1 hJ1 hs1 => ?_
    refine wpAny_bind (wpAny_of_eq rfl ?_)
    refine wpAny_bind (wpAny_assign_Name (wpAny_storeName_local hy (hn'.at' fun o e => hs1.extBut _ o hCJ e) (fun h2 hn2 hs2 => ?_) hp))
    refine wpAny_bind (wpAny_bind (wpAny_Name (wpAny_loadName_local hk hy hn2 (v := items[j]) (by simp) ?_) hd))
    have k2 : ∀ b o, b ≠ cenv.locals → b ≠ J → H.get? b = some o → h2.get? b = some o := fun b o a c e => hs2.extBut b o a (hs1.extBut b o c e)
    refine wpAny_bind (wpAny_list_append_plain (hD'.at fun o e => k2 D o hDC hDJ e) (fun h3 hD3 hs3 => ?_) ?hz)
    case hz => simp [List.length_take]; omega
    refine wpAny_pure (wpAny_pure ⟨rfl, items.size + 1 - (j + 1), by omega, h3, _, _, j + 1, rfl, ?_, ?_, ?_, hn2.at' fun o e => hs3.extBut _ o (Ne.symm hDC) e, hlt, rfl, fun b o a c d e => hs3.extBut b o d (k2 b o a c (hkp b o a c d e))⟩)
    · exact (hJ1.at fun o e => hs2.extBut _ o (Ne.symm hCJ) e).at fun o e => hs3.extBut _ o (Ne.symm hDJ) e
    · exact hr'.at fun o e => hs3.extBut _ o (Ne.symm hDr) (k2 r o (Ne.symm hCr) (Ne.symm hJr) e)
    · rw [List.take_add_one]
      simpa [hlt] using hD3
  · have hje : j = items.size := by omega
    subst hje
    refine wpAny_pyNext_list_end hh hJ' hr' (by simp) fun h1 hs1 => ?_
    refine wpAny_pure ?_
    exact hR h1 m' (hn'.at' fun o e => hs1 _ o hCJ e) (by
      have := hD'.at fun o e => hs1 D o hDJ e
      rw [List.take_of_length_le (by simp)] at this
      simpa using this) (fun b o a c d e => hs1 b o c (hkp b o a c d e)) _
/-- the outer loop -/
theorem flat_out {x y : Str} {px py pe p2 : Pos} {i1 : Expr} {scope : Scope} {pos : Pos} {I a D g : Addr} {cenv : Env} {m : Str → Option Value} {rows : Array Value} {wss : List (List Value)} (hh : A.handled = none)
    (hk : cenv.scope.kind = .function) (hx : cenv.kindOf x = some .local) (hy : cenv.kindOf y = some .local) (hdx : (x == ("__debug__" : Str)) = false) (hdy : (y == ("__debug__" : Str)) = false)
    (hp : (cenv.scope.kind == .class || (cenv.scope.kind == .module && cenv.locals != cenv.globals)) = false)
    (hDC : D ≠ cenv.locals) (hDI : D ≠ I) (hCI : cenv.locals ≠ I) (gD : g ≤ D) (gC : g ≤ cenv.locals) (gI : g ≤ I) (ga : a < g)
    (hn : s.heap.Ns cenv.locals m) (hI : s.heap.IsListIter I a 0) (ha : s.heap.IsList a rows) (hD : s.heap.PlainList D #[]) (hl : wss.length = rows.size)
    (hrow : ∀ i, i < rows.size → ∃ ra ws, rows[i]? = some (.ref ra) ∧ wss[i]? = some ws ∧ ra < g ∧ s.heap.IsList ra ws.toArray) (hsz : wss.flatten.length ≤ sizeLine)
    (hR : ∀ h' m' tk, h'.Ns cenv.locals m' → h'.PlainList D wss.flatten.toArray → (∀ b o, b < g → s.heap.get? b = some o → h'.get? b = some o) → R (.ok .next) { s with heap := h', toks := tk }) :
    codeAny (model prog w) A (.compLoop (.ListComp (.Name y pe) [⟨.Name x px, i1, [], 0⟩, ⟨.Name y py, .Name x p2, [], 0⟩] scope pos) 0 (.ref I) (.ref D) cenv) R s := by
  refine codeAny_loop rfl (fun k s' => ∃ h' tk m' j, s' = { s with heap := h', toks := tk } ∧ h'.IsListIter I a j ∧ h'.PlainList D (wss.take j).flatten.toArray ∧ h'.Ns cenv.locals m' ∧ j ≤ rows.size ∧
      k = rows.size + 1 - j ∧ (∀ b o, b < g → s.heap.get? b = some o → h'.get? b = some o)) (fun k s' hI => ?_) (rows.size + 1)
    ⟨s.heap, s.toks, m, 0, rfl, hI, by simpa using hD, hn, Nat.zero_le _, rfl, fun _ _ _ e => e⟩
  obtain ⟨H, tk, m', j, rfl, hI', hD', hn', hj, rfl, hkp⟩ := hI
  show wpAny _ _ ((compTurn (.ListComp (.Name y pe) [⟨.Name x px, i1, [], 0⟩, ⟨.Name y py, .Name x p2, [], 0⟩] scope pos) 0 (.ref I) (.ref D) cenv).onRaise (fun x => do noteFrame x cenv; theTreesLotGoes x)) _ _ _
  refine wpAny_noted ?_
  rw [compTurn_flat0]
  refine wpAny_bind (wpAny_standAt (wpAny_bind ?_))
  have ha' : H.IsList a rows := ha.at fun o e => hkp a o ga e
  by_cases hlt : j < rows.size
  · obtain ⟨ra, ws, e1, e2, lra, hra⟩ := hrow j hlt
    refine wpAny_pyNext_list_item hI' ha' e1 fun h1 hI1 hs1 => ?_
    refine wpAny_bind (wpAny_of_eq rfl ?_)
    refine wpAny_bind (wpAny_assign_Name (wpAny_storeName_local hx (hn'.at' fun o e => hs1.extBut _ o hCI e) (fun h2 hn2 hs2 => ?_) hp))
    refine wpAny_bind (wpAny_Name (wpAny_loadName_local hk hx hn2 (v := .ref ra) (by simp) ?_) hdx)
    have k2 : ∀ b o, b ≠ cenv.locals → b ≠ I → H.get? b = some o → h2.get? b = some o := fun b o a c e => hs2.extBut b o a (hs1.extBut b o c e)
    have neC : ∀ b, b < g → b ≠ cenv.locals := fun b hb e => Nat.lt_irrefl _ (Nat.lt_of_lt_of_le (e ▸ hb) gC)
    have neI : ∀ b, b < g → b ≠ I := fun b hb e => Nat.lt_irrefl _ (Nat.lt_of_lt_of_le (e ▸ hb) gI)
    have neD : ∀ b, b < g → b ≠ D := fun b hb e => Nat.lt_irrefl _ (Nat.lt_of_lt_of_le (e ▸ hb) gD)
    have hra2 : h2.IsList ra ws.toArray := hra.at fun o e => k2 ra o (neC ra lra) (neI ra lra) (hkp ra o lra e)
    have hD2 : h2.PlainList D (wss.take j).flatten.toArray := hD'.at fun o e => k2 D o hDC hDI e
    refine wpAny_bind (wpAny_standAt (wpAny_bind (wpAny_of_eq rfl (wpAny_bind (wpAny_holding (wpAny_pyIter_list hra2 ?_))))))
    have up : ∀ b o, h2.get? b = some o → (h2.push { cls := .type "list_iterator", data := .fields #[.ref ra, .int 0 0] }).get? b = some o := fun b o e => Heap.get?_push_of_some _ e
    have ltJ : ∀ b o, h2.get? b = some o → b ≠ h2.objs.size := fun b o e => Nat.ne_of_lt (Heap.lt_size e)
    have fin : ∀ R' : Result → Shared → Prop, (∀ s', (∃ m, m < rows.size + 1 - j ∧ ∃ h' tk m' j, s' = { s with heap := h', toks := tk } ∧ h'.IsListIter I a j ∧ h'.PlainList D (wss.take j).flatten.toArray ∧ h'.Ns cenv.locals m' ∧ j ≤ rows.size ∧
          m = rows.size + 1 - j ∧ (∀ b o, b < g → s.heap.get? b = some o → h'.get? b = some o)) → R' (.ok .next) s') →
        codeAny (model prog w) (A.mark none) (.compLoop (.ListComp (.Name y pe) [⟨.Name x px, i1, [], 0⟩, ⟨.Name y py, .Name x p2, [], 0⟩] scope pos) 1 (.ref h2.objs.size) (.ref D) cenv) R'
        { s with heap := h2.push { cls := .type "list_iterator", data := .fields #[.ref ra, .int 0 0] }, toks := tk + 1 } := by
      intro R' hR'
      obtain ⟨oC, _, _, gC2, _⟩ := id hn2
      obtain ⟨nD, gD2⟩ := id hD2
      obtain ⟨oR, gR2, _⟩ := id hra2
      refine flat_in (r := ra) (m := _) (items := ws.toArray) (ys := (wss.take j).flatten.toArray) (by cases A; exact hh) hk hy hdy hp hDC (ltJ _ _ gD2) (fun e => neD ra lra e.symm) (ltJ _ _ gC2) (fun e => neC ra lra e.symm) (fun e => ltJ _ _ gR2 e.symm)
        (hn2.at' fun o e => up _ o e) ⟨_, Heap.get?_push_size _ rfl, rfl, rfl⟩ (hra2.at fun o e => up _ o e) (hD2.at fun o e => up _ o e) ?_ fun h3 m3 hn3 hD3 hk3 tk3 => ?_
      · have : (wss.take (j + 1)).flatten.length ≤ wss.flatten.length := by
          conv => rhs; rw [← List.take_append_drop (j + 1) wss, List.flatten_append, List.length_append]
          exact Nat.le_add_right _ _
        rw [List.take_add_one, e2, List.flatten_append, List.length_append] at this
        have e3 : ((some ws).toList).flatten.length = ws.length := by simp
        rw [e3] at this
        exact Nat.le_trans this hsz
      · refine hR' _ ⟨rows.size + 1 - (j + 1), by omega, h3, _, m3, j + 1, rfl, ?_, ?_, hn3, hlt, rfl, fun b o hb e => ?_⟩
        · obtain ⟨oI, gI1, _⟩ := id hI1
          exact hI1.at fun o e => have e' := hs2.extBut _ o (Ne.symm hCI) e; hk3 I o (Ne.symm hCI) (ltJ _ _ e') (Ne.symm hDI) (up _ o e')
        · rw [List.take_add_one, e2]
          simpa using hD3
        · have e' := k2 b o (neC b hb) (neI b hb) (hkp b o hb e)
          exact hk3 b o (neC b hb) (ltJ _ _ e') (neD b hb) (up _ o e')
    refine wpAny_bind (wpAny_runOwn ?_)
    refine codeAny_compStart1 (fin _ fun s' hs' => ?_) (wpAny_pyIter_listiter (l := ra) (i := 0) ⟨_, Heap.get?_push_size _ rfl, rfl, rfl⟩ (fin _ fun s' hs' => ?_))
    · exact wpAny_pure ⟨rfl, hs'⟩
    · exact wpAny_pure ⟨rfl, hs'⟩
  · have hje : j = rows.size := by omega
    subst hje
    refine wpAny_pyNext_list_end hh hI' ha' (by simp) fun h1 hs1 => ?_
    refine wpAny_pure ?_
    exact hR h1 m' _ (hn'.at' fun o e => hs1 _ o hCI e) (by
      have := hD'.at fun o e => hs1 D o hDI e
      rw [List.take_of_length_le (by omega)] at this
      exact this) (fun b o hb e => hs1 b o (fun e => Nat.lt_irrefl _ (Nat.lt_of_lt_of_le (e ▸ hb) gI)) (hkp b o hb e))
/-- [y for x in a for y in x] over lists of the ledger -/
theorem flat_comp {h₀ : Heap} {L a : Addr} {m : Str → Option Value} {news : List (Addr × Obj)} {env : Env} {x y v : Str} {px py pe p1 p2 : Pos} {scope : Scope} {pos : Pos} {rows : List Value} {n : Nat} {wss : List (List Value)} {Q : Value → Shared → Prop}
    (hfree : ∀ x ∈ scope.names, x.2 ≠ .free) (hkind : scope.kind = .function) (hnames : ∀ x ∈ scope.names, x.2 = .local → scope.names.lookup x.1 = some .local) (hcell : ∀ x ∈ scope.names, x.2 ≠ .cell)
    (hx : scope.names.lookup x = some .local) (hy : scope.names.lookup y = some .local) (hdx : (x == ("__debug__" : Str)) = false) (hdy : (y == ("__debug__" : Str)) = false) (hdv : (v == ("__debug__" : Str)) = false)
    (hek : env.scope.kind = .function) (hev : env.kindOf v = some .local) (hel : env.locals = L) (hm : m v = some (.ref a)) (hh : A.handled = none)
    (F : Fr h₀ L s.heap m) (N : News h₀ L s.heap news) (ha : (a, lisOf rows n) ∈ news) (hl : wss.length = rows.length)
    (hrow : ∀ i, i < rows.length → ∃ ra ws n, rows[i]? = some (.ref ra) ∧ wss[i]? = some ws ∧ (ra, lisOf ws n) ∈ news) (hsz : wss.flatten.length ≤ sizeLine)
    (k : ∀ D h' tk n', Fr h₀ L h' m → News h₀ L h' ((D, lisOf wss.flatten n') :: news) → (∀ p ∈ news, p.1 < D) → Q (.ref D) { s with heap := h', toks := tk }) :
    wpAny (model prog w) A (eval (.ListComp (.Name y pe) [⟨.Name x px, .Name v p1, [], 0⟩, ⟨.Name y py, .Name x p2, [], 0⟩] scope pos) env) Q E s := by
  have ha0 : s.heap.IsList a rows.toArray := ⟨_, (N _ ha).1, rfl, _, rfl⟩
  refine wpAny_ListComp hfree hkind hnames (wpAny_Name (wpAny_loadName_local hek hev (m := m) (hel ▸ F.ns) hm (wpAny_pyIter_list ha0 ?_)) hdv)
  refine wpAny_newObj_type (wpAny_newFunctionEnv hcell (by intro y hy; simp at hy) (fun h₁ hns₁ hsb₁ => ?_) hkind)
  dsimp only at hns₁ hsb₁ ⊢
  have gI := Heap.get?_push_size s.heap (o := { cls := .type "list_iterator", data := .fields #[.ref a, .int 0 0] }) rfl
  have up1 : ∀ b o, s.heap.get? b = some o → (s.heap.push { cls := .type "list_iterator", data := .fields #[.ref a, .int 0 0] }).get? b = some o := fun b o e => Heap.get?_push_of_some _ e
  have zI : (s.heap.push { cls := .type "list_iterator", data := .fields #[.ref a, .int 0 0] }).objs.size = s.heap.objs.size + 1 := Heap.size_push ..
  generalize hH1 : s.heap.push { cls := .type "list_iterator", data := .fields #[.ref a, .int 0 0] } = H1 at hns₁ hsb₁ gI up1 zI ⊢
  have gD := Heap.get?_push_size H1 (o := { cls := .type "list", dict := none, data := .seq ([] : List Value).toArray }) rfl
  have up2 : ∀ b o, H1.get? b = some o → (H1.push { cls := .type "list", dict := none, data := .seq ([] : List Value).toArray }).get? b = some o := fun b o e => Heap.get?_push_of_some _ e
  have zD : (H1.push { cls := .type "list", dict := none, data := .seq ([] : List Value).toArray }).objs.size = H1.objs.size + 1 := Heap.size_push ..
  generalize hH2 : H1.push { cls := .type "list", dict := none, data := .seq ([] : List Value).toArray } = H2 at hns₁ hsb₁ gD up2 zD ⊢
  have up3 : ∀ b o, H2.get? b = some o → h₁.get? b = some o := fun b o e => hsb₁.extBut b o (Nat.ne_of_lt (Heap.lt_size e)) (Heap.get?_push_of_some _ e)
  have up : ∀ b o, s.heap.get? b = some o → h₁.get? b = some o := fun b o e => up3 b o (up2 b o (up1 b o e))
  have q1 : @LE.le Nat _ s.heap.objs.size H1.objs.size := by omega
  have q2 : @LE.le Nat _ s.heap.objs.size H2.objs.size := by omega
  have cont : ∀ s₃ : Shared, s₃ = { s with heap := h₁, toks := s.toks + ([] : List (Str × Value)).length } → codeAny (model prog w) A (.compLoop (.ListComp (.Name y pe) [⟨.Name x px, .Name v p1, [], 0⟩, ⟨.Name y py, .Name x p2, [], 0⟩] scope pos) 0 (.ref s.heap.objs.size) (.ref H1.objs.size)
      (({ newEnv scope H2.objs.size env.globals [] env.qual none .none (some env) builtinsNs with scope := scope } : Env)))
      (fun r s' => ∃ m', s'.heap.Ns H2.objs.size m' ∧ ∀ h', Heap.SameBut H2.objs.size s'.heap h' →
          match r with | .ok _ => Q (.ref H1.objs.size) { s' with heap := h' } | .error x => wpAny (model prog w) A (PySem.passOn "comprehension.variables-let-go" x (({ newEnv scope H2.objs.size env.globals [] env.qual none .none (some env) builtinsNs with scope := scope } : Env))) Q E { s' with heap := h' }) s₃ := by
    rintro s₃ rfl
    refine flat_out (g := s.heap.objs.size) (a := a) (rows := rows.toArray) (wss := wss) hh hkind hx hy hdx hdy (by simp [newEnv, hkind]) (Nat.ne_of_lt (by show H1.objs.size < H2.objs.size; omega)) (Nat.ne_of_gt (by omega)) (Nat.ne_of_gt (by show s.heap.objs.size < H2.objs.size; omega))
      q1 q2 (Nat.le_refl _) (Heap.lt_size (N _ ha).1) hns₁ ⟨_, up3 _ _ (up2 _ _ gI), rfl, rfl⟩ (ha0.at fun o e => up _ o e) ⟨_, up3 _ _ gD⟩ (by simpa using hl) ?_ hsz ?_
    · intro i hi
      obtain ⟨ra, ws, n, e1, e2, e3⟩ := hrow i (by simpa using hi)
      exact ⟨ra, ws, by simpa using e1, e2, Heap.lt_size (N _ e3).1, ⟨_, up _ _ (N _ e3).1, rfl, _, rfl⟩⟩
    · intro h' m' tk hn' hD' hk'
      refine ⟨m', hn', fun h'' hs'' => ?_⟩
      have kp : ∀ b o, s.heap.get? b = some o → h''.get? b = some o := fun b o e => hs''.extBut b o (Nat.ne_of_lt (Nat.lt_of_lt_of_le (Heap.lt_size e) (by omega))) (hk' b o (Heap.lt_size e) (up b o e))
      obtain ⟨n', e'⟩ := hD'
      have e'' := hs''.extBut _ _ (Nat.ne_of_lt (by omega)) e'
      have hlt : ∀ p ∈ news, p.1 < H1.objs.size := fun p hp => Nat.lt_of_lt_of_le (Heap.lt_size (N p hp).1) (by omega)
      refine k _ h'' tk n' (F.keptAll kp) (fun p hp => ?_) hlt
      rcases List.mem_cons.mp hp with rfl | hp
      · have hL : L < s.heap.objs.size := F.ns.lt
        refine ⟨e'', ?_, ?_⟩
        · skip; exact Nat.ne_of_gt (Nat.lt_of_lt_of_le hL (by omega))
        · cases e : h₀.get? H1.objs.size with
          | none => rfl
          | some o => exact absurd (Heap.lt_size (F.keep _ _ e)) (Nat.not_lt.mpr q1)
      · exact ⟨kp _ _ (N p hp).1, (N p hp).2⟩
  exact codeAny_compStart_list (cont _ rfl) (wpAny_pyIter_listiter (l := a) (i := 0) ⟨_, up3 _ _ (up2 _ _ gI), rfl, rfl⟩ (cont _ rfl))
end
end
local macro_rules | `(tactic| walk_at "getAttr ref") => `(tactic| (k_here; k_dflt (first | ((with_reducible show wpAny _ _ (getAttr (Value.ref _) (Str.ofString "loaded") _) _ _ _); refine' mach_ld ?zF ?zX ?zN ?za ?zb ?zc ?_; (case zF => k_asm); (case zX => k_asm); (case zN => k_asm); (case za => k_mem); (case zb => k_mem); (case zc => with_reducible assumption); k_whole) | ((with_reducible show wpAny _ _ (getAttr (Value.ref _) (Str.ofString "memory") _) _ _ _); refine' mach_mem ?zF ?zX ?zN ?za ?zb ?zc ?_; (case zF => k_asm); (case zX => k_asm); (case zN => k_asm); (case za => k_mem); (case zb => k_mem); (case zc => with_reducible assumption); k_whole) | ((with_reducible show wpAny _ _ (getAttr (Value.ref _) (Str.ofString "cpu") _) _ _ _); refine' mach_cpu ?zF ?zX ?zN ?za ?zb ?zc ?_; (case zF => k_asm); (case zX => k_asm); (case zN => k_asm); (case za => k_mem); (case zb => k_mem); (case zc => with_reducible assumption); k_whole) | ((with_reducible show wpAny _ _ (getAttr (Value.ref _) (Str.ofString "rows") _) _ _ _); refine' obj_rows ?zF ?zX ?zN ?za ?zb ?zc ?_; (case zF => k_asm); (case zX => k_asm); (case zN => k_asm); (case za => k_mem); (case zb => k_mem); (case zc => with_reducible assumption); k_whole) | ((with_reducible show wpAny _ _ (getAttr (Value.ref _) (Str.ofString "maps") _) _ _ _); refine' obj_maps ?zF ?zX ?zN ?za ?zb ?zc ?_; (case zF => k_asm); (case zX => k_asm); (case zN => k_asm); (case za => k_mem); (case zb => k_mem); (case zc => with_reducible assumption); k_whole) | ((with_reducible show wpAny _ _ (getAttr (Value.ref _) (Str.ofString "size") _) _ _ _); refine' mem_size ?zF ?zX ?zN ?za ?zb ?zc ?_; (case zF => k_asm); (case zX => k_asm); (case zN => k_asm); (case za => k_mem); (case zb => k_mem); (case zc => with_reducible assumption); k_whole; intro t') | ((with_reducible show wpAny _ _ (getAttr (Value.ref _) (Str.ofString "regs") _) _ _ _); refine' cpu_regs ?zF ?zX ?zN ?za ?zb ?zc ?_; (case zF => k_asm); (case zX => k_asm); (case zN => k_asm); (case za => k_mem); (case zb => k_mem); (case zc => with_reducible assumption); k_whole) | ((with_reducible show wpAny _ _ (getAttr (Value.ref _) (Str.ofString "object") _) _ _ _); refine' load_obj ?zF ?zX ?zN ?za ?zb ?zc ?_; (case zF => k_asm); (case zX => k_asm); (case zN => k_asm); (case za => k_mem); (case zb => k_mem); (case zc => with_reducible assumption); k_whole))))
local macro_rules | `(tactic| walk_at "getMethod ref") => `(tactic| (k_here; k_dflt (first | ((with_reducible show wpAny _ _ (getMethod (Value.ref _) (Str.ofString "add_rows") _) _ _ _); refine' mach_add ?zF ?zX ?zN ?za ?zb ?zc ?_; (case zF => k_asm); (case zX => k_asm); (case zN => k_asm); (case za => k_mem); (case zb => k_mem); (case zc => with_reducible assumption); k_whole) | ((with_reducible show wpAny _ _ (getMethod (Value.ref _) (Str.ofString "add_data") _) _ _ _); refine' mach_data ?zF ?zX ?zN ?za ?zb ?zc ?_; (case zF => k_asm); (case zX => k_asm); (case zN => k_asm); (case za => k_mem); (case zb => k_mem); (case zc => with_reducible assumption); k_whole) | ((with_reducible show wpAny _ _ (getMethod (Value.ref _) (Str.ofString "most_frames") _) _ _ _); refine' mach_most ?zF ?zX ?zN ?za ?zb ?zc ?_; (case zF => k_asm); (case zX => k_asm); (case zN => k_asm); (case za => k_mem); (case zb => k_mem); (case zc => with_reducible assumption); k_whole) | ((with_reducible show wpAny _ _ (getMethod (Value.ref _) (Str.ofString "put_word") _) _ _ _); refine' mem_put ?zF ?zX ?zN ?za ?zb ?zc ?_; (case zF => k_asm); (case zX => k_asm); (case zN => k_asm); (case za => k_mem); (case zb => k_mem); (case zc => with_reducible assumption); k_whole) | ((with_reducible show wpAny _ _ (getMethod (Value.ref _) (Str.ofString "word") _) _ _ _); refine' mem_word ?zF ?zX ?zN ?za ?zb ?zc ?_; (case zF => k_asm); (case zX => k_asm); (case zN => k_asm); (case za => k_mem); (case zb => k_mem); (case zc => with_reducible assumption); k_whole))))
local macro_rules | `(tactic| walk_at "setAttr ref") => `(tactic| (k_here; k_dflt (first | ((with_reducible show wpAny _ _ (setAttr (Value.ref _) (Str.ofString "rows") _) _ _ _); refine' obj_setrows ?zF ?zX ?zN ?za ?zb ?zc ?_; (case zF => k_asm); (case zX => k_asm); (case zN => k_asm); (case za => k_mem); (case zb => k_updF); (case zc => with_reducible assumption); k_whole; intro h' o' H' F' N'; (try dsimp only at N'); (try k_sweep)) | ((with_reducible show wpAny _ _ (setAttr (Value.ref _) (Str.ofString "pc") _) _ _ _); refine' cpu_setpc ?zF ?zX ?zN ?za ?zb ?zc ?_; (case zF => k_asm); (case zX => k_asm); (case zN => k_asm); (case za => k_mem); (case zb => k_updF); (case zc => with_reducible assumption); k_whole; intro h' o' H' F' N'; (try dsimp only at N'); (try k_sweep)))))
local macro_rules | `(tactic| walk_at "call ref") => `(tactic| (k_here; refine held ?_))
local macro_rules | `(tactic| walk_at "pyIter ref") => `(tactic| refine held ?_)
local macro_rules | `(tactic| walk_at "eval ListComp") => `(tactic| refine held ?_)
local macro_rules | `(tactic| walk_at "execs cons Assign cons") => `(tactic| ((with_reducible refine wpAny_execs_cons ?_); try dsimp only))
local macro_rules | `(tactic| walk_at "exec For Name Call cons nil") => `(tactic| (k_here; (rename Fr _ _ _ _ => lF'); (with_unfolding_all refine' For_invVF lF' ?k1 ?k2 ?_; (case k1 => exact rfl); (case k2 => exact rfl); k_whole)))
local macro_rules | `(tactic| walk_at "call type:range") => `(tactic| (k_here; k_dflt (refine' range_one ?zF ?zN ?_; (case zF => k_asm); (case zN => k_asm)); k_whole; intro r' o' h' t1' t2' F' N' R' l1; (try dsimp only); (try k_lt l1); (try k_sweep)))
local macro_rules | `(tactic| walk_at "binaryOp Mult ref int") => `(tactic| (k_here; k_dflt (refine' mul_one ?zF ?zN ?za ?zb ?zc ?_; (case zF => k_asm); (case zN => k_asm); (case za => k_mem); (case zb => omega); (case zc => omega)); k_whole; intro D' h' F' N' l1; (try dsimp only); (try k_lt l1); (try k_sweep)))
local macro_rules | `(tactic| walk_at "CompSrcT") => `(tactic| refine held ?_)
local macro_rules | `(tactic| walk_at "CompSrc") => `(tactic| refine held ?_)
local macro_rules | `(tactic| walk_at "CompEnd") => `(tactic| refine held ?_)
section
open PySem PySem.W PyProof.Rows
theorem rst_28 {M : Model} {A : Around} {Q : Unit → Shared → Prop} {E : Value → Shared → Prop} {s : Shared} (h : Q () s) : wpAny M A (Sem.pure ()) Q E s := by
  w_top off
  first | walk1 | exact wpAny_pure h
end
section
open PySem PySem.W PySem.Calls PyProof.Rows PyProof.V
theorem fill_L2 : MineH.K = MineH.K ∧ PySem.Challenge.rw_pb0376_02 = PySem.Challenge.rw_pb0376_02 := by k_fill; exact ⟨rfl, rfl⟩
local macro_rules | `(tactic| walk_at "setItem ref int") => `(tactic| refine held ?_)
/-- the maps of the rows made so far -/
inductive MapsAre (w : World) (old led : List (Addr × Obj)) (o : Obj) (ml : List (List Int)) : Prop where
  | mk (kvs : List (Int × Value)) (e1 : o.IsDictOf (intKind P2 w) kvs) (e2 : kvs.length ≤ ml.length)
    (e3 : ∀ (j : Nat) l, ml[j]? = some l → ∃ x vs k, valueAt kvs (j : Int) = some (.ref x) ∧ (x, lisOf vs k) ∈ led ∧ IntsAre vs l ∧ vs.length ≤ 4 ∧ (∀ y ∈ l, OffOk y) ∧ ∀ p ∈ old, p.1 ≠ x) : MapsAre w old led o ml
theorem MapsAre.mono {w : World} {old led led' : List (Addr × Obj)} {o : Obj} {ml : List (List Int)} (h : MapsAre w old led o ml) (hs : ∀ p ∈ led, p ∈ led') : MapsAre w old led' o ml := by
  obtain ⟨kvs, e1, e2, e3⟩ := h
  exact ⟨kvs, e1, e2, fun j l hj => by obtain ⟨x, vs, k, q1, q2, q3⟩ := e3 j l hj; exact ⟨x, vs, k, q1, hs _ q2, q3⟩⟩
theorem map_put {prog : Program} {w : World} {A : Around} {E : Value → Shared → Prop} {s : Shared} {h₀ : Heap} {L d : Addr} {m : Str → Option Value} {news : List (Addr × Obj)} {g : Obj → List (Addr × Obj)} {o : Obj} {kvs : List (Int × Value)} {i : Int} {t : Tok} {v : Value} {Q : Unit → Shared → Prop}
    (F : Fr h₀ L s.heap m) (N : News h₀ L s.heap news) (U : UpdF d o news g) (hd : o.IsDictOf (intKind prog w) kvs) (hc : kvs.length ≤ 1000)
    (h : ∀ h' o', Fr h₀ L h' m → News h₀ L h' (g o') → o'.IsDictOf (intKind prog w) (stored kvs i v) → Q () { s with heap := h', toks := s.toks + 1 }) :
    wpAny (model prog w) A (setItem (.ref d) (.int i t) v) Q E s := by
  obtain ⟨pre, post, rfl, hg, a, b⟩ := U.split
  have hm := N (d, o) (List.mem_append_right _ (.head _))
  refine wpAny_setItem_pairs (hsz := by rw [sizeLine_eq]; omega) (intKind_is prog w i t) (Heap.dictOf_iff.mpr ⟨o, hm.1, hd⟩) fun h' hmm hs => ?_
  obtain ⟨o', ho', hd'⟩ := Heap.dictOf_iff.mp hmm
  exact h h' o' (F.change hs hm.2.1 hm.2.2) (by rw [hg]; exact N.setIn a b hs ho') hd'
theorem MapsAre.put {w : World} {old led led' : List (Addr × Obj)} {o' : Obj} {ml : List (List Int)} {kvs : List (Int × Value)} {D : Addr} {ys : List Value} {n : Nat} {offs : List Int} {i : Nat} (e2 : kvs.length ≤ ml.length)
    (e3 : ∀ (j : Nat) l, ml[j]? = some l → ∃ x vs k, valueAt kvs (j : Int) = some (.ref x) ∧ (x, lisOf vs k) ∈ led ∧ IntsAre vs l ∧ vs.length ≤ 4 ∧ (∀ y ∈ l, OffOk y) ∧ ∀ p ∈ old, p.1 ≠ x)
    (hi : ml.length = i) (hd : o'.IsDictOf (intKind P2 w) (stored kvs (0 + (i : Int)) (.ref D))) (hs : ∀ p ∈ led, p ∈ led') (h1 : (D, lisOf ys n) ∈ led') (h2 : IntsAre ys offs) (h3 : ys.length ≤ 4) (h4 : ∀ y ∈ offs, OffOk y) (h5 : ∀ p ∈ old, p.1 ≠ D) :
    MapsAre w old led' o' (ml ++ [offs]) := by
  refine ⟨_, hd, Nat.le_trans (stored_length_le _ _ _) (by rw [List.length_append]; exact Nat.succ_le_succ e2), fun j l hj => ?_⟩
  rw [valueAt_stored, Int.zero_add]
  by_cases hji : j = i
  · subst hji
    rw [← hi, List.getElem?_append_right (Nat.le_refl _), Nat.sub_self] at hj
    cases hj
    exact ⟨D, ys, n, by rw [if_pos rfl], h1, h2, h3, h4, h5⟩
  · have hlt : j < ml.length := by
      have := (List.getElem?_eq_some_iff.mp hj).1
      rw [List.length_append, List.length_cons, List.length_nil] at this
      omega
    rw [List.getElem?_append_left hlt] at hj
    obtain ⟨x, vs, k, q1, q2, q3⟩ := e3 j l hj
    exact ⟨x, vs, k, by rw [if_neg (by omega)]; exact q1, hs _ q2, q3⟩
theorem OffOk.of {j : Nat} (h : j < 4) : OffOk (4 * (0 + (j : Int)) - 24) := by unfold OffOk; omega
theorem off1_mem {D : Addr} : ∀ {l : List (Addr × Obj)}, PyProof.Rows.LCg.Off1 D l → ∀ p ∈ l, p.1 ≠ D
  | [], _, _, h => nomatch h
  | _ :: _, x, p, h => by
    rcases List.mem_cons.mp h with rfl | h
    · exact x.1
    · exact off1_mem x.2 p h
theorem ran_ok {n : Nat} (h : n ≤ 100) : Builtin.Range.small 0 (n : Int) 1 = true ∧ Builtin.Range.rangeSize 0 (n : Int) 1 = (n : Int) := by
  have : ∀ n : Fin 101, Builtin.Range.small 0 (n.1 : Int) 1 = true ∧ Builtin.Range.rangeSize 0 (n.1 : Int) 1 = (n.1 : Int) := by decide
  exact this ⟨n, by omega⟩
inductive JB (w : World) (old R : List (Addr × Obj)) (src lst mp : Addr) (m₀ : Str → Option Value) (i : Nat) (m : Str → Option Value) (l : List (Addr × Obj)) : Prop where
  | mk (o1 o2 om : Obj) (rest : List (Addr × Obj)) (ml : List (List Int)) (u9 : Option Value) (e0 : l = (src, o1) :: (lst, o2) :: (mp, om) :: rest) (g1 : SrcIs lst o1 o2) (g2 : ∀ p ∈ R, p ∈ rest) (g3 : ∀ p ∈ rest, p.1 ≠ src ∧ p.1 ≠ lst ∧ p.1 ≠ mp)
    (g4 : MapsAre w old rest om ml) (g5 : ml.length = i) (e9 : m = fun y => if y = Str.ofString "row" then u9 else m₀ y) : JB w old R src lst mp m₀ i m l
inductive JC (src lst : Addr) (RR : List (Addr × Obj)) (i : Nat) (ys : List Value) (l : List (Addr × Obj)) : Prop where
  | mk (o1 o2 : Obj) (offs : List Int) (e0 : l = (src, o1) :: (lst, o2) :: RR) (g1 : SrcIs lst o1 o2) (g2 : IntsAre ys offs) (g3 : ys.length ≤ i) (g4 : ∀ y ∈ offs, OffOk y) : JC src lst RR i ys l
section
variable {w : World} {A₀ : Around} {base h₀ : Heap} {L fa : Addr} {mg mb : Str → Option Value} {mean : ExcName → Option Value} {s : Shared} {Q : Flow → Shared → Prop} {R : Result → Shared → Prop}
  {d u : Nat} {gs : Option (List Code)} {oc : Value} {od : Option Addr} {name qual : Str} {params : Arguments} {body : List Stmt} {scope : Scope} {dV kV doc pm cdv ct cd : Value} {an : Option Addr} {osl : Array (Option Value)}
  {led : List (Addr × Obj)} {kS kO so lo omp oo : Obj} {src lst mp ob dob rw : Addr} {rv : List Value} {nr n : Nat} {m₀ : Str → Option Value} {st : Stmt}
theorem law_b (hlk : List.lookup 430 (MineH.K w.params) = some ⟨oc, od, .func (fnOf name qual params body scope dV kV doc pm an cdv ct), osl⟩) (hst : body[4]? = some st)
  (B : Below A₀ base [] h₀) (F : Fr h₀ L s.heap m₀) (N : News h₀ L s.heap led) (X : (MineH.K w.params).In h₀) (T : Top MineH.qv LB mean mg mb h₀) (hdp : d < 400) (hu : u ≤ 800)
  (a1 : (L + 1, kS) ∈ led) (d1 : kS.data = .cell (some (.ref src))) (a3 : (L + 1 + 1 + 1, kO) ∈ led) (d3 : kO.data = .cell (some (.ref ob))) (a4 : (src, so) ∈ led) (a5 : (lst, lo) ∈ led) (hS : SrcIs lst so lo) (hls : @LT.lt Nat _ lst src)
  (a6 : (mp, omp) ∈ led) (hmp : omp.IsDictOf (intKind P2 w) []) (hmps : (mp == sysModules) = false) (a7 : (ob, instObj 414 dob) ∈ led) (a8 : (dob, oo) ∈ led) (hO : ObjB oo rw mp) (a9 : (rw, lisOf rv nr) ∈ led) (hrv : rv.length ≤ 100)
  (n1 : @LT.lt Nat _ (L + 1 + 1 + 1) lst) (n2 : @LT.lt Nat _ src dob) (n3 : @LT.lt Nat _ dob ob) (n4 : @LT.lt Nat _ ob mp) (n5 : @LT.lt Nat _ mp rw)
  (k : ∀ h' tk m' led' so' lo' omp' ml, Fr h₀ L h' m' → News h₀ L h' led' → (∀ p ∈ led, p.1 ≠ src → p.1 ≠ lst → p.1 ≠ mp → p ∈ led') → (src, so') ∈ led' → (lst, lo') ∈ led' → SrcIs lst so' lo' → (mp, omp') ∈ led' → MapsAre w led led' omp' ml → ml.length = rv.length →
    Q .next { s with heap := h', toks := tk }) :
  wpAny (model P2 w) (mkA none d (envOfC qual scope L fa cd) [] gs u) (exec st (envOfC qual scope L fa cd)) Q
    (fun e s' => wpAny (model P2 w) (mkA none d (envOfC qual scope L fa cd) [] gs u) (leaving (envOfC qual scope L fa cd) e) (fun _ s'' => R (.error e) s'') (fun e' s'' => R (.error e') s'') s') s := by
  rw [show List.lookup 430 (MineH.K w.params) = some _ from (by k_is)] at hlk
  cases hlk
  cases hst
  (try dsimp only)
  (try k_fold)
  have hCx : ∀ {m' : Str → Option Value} {h' : Heap} {env : Env}, env.frame = some L → env.scope.kind = .function → Fr h₀ L h' m' → Cb w A₀ base h₀ [] env L m' mg mb mean h' := fun e1 e2 F => ⟨B, F, X, T, e1, e2⟩
  have hrn : rv.length ≤ 100000 := by omega
  k_steps
  (rename Fr _ _ _ _ => F1); (rename News _ _ _ _ => N1); (rename IsRange _ _ _ _ _ _ _ _ => R1)
  refine Held.of ?_
  refine grabL N1 fun l1 hl1 => ?_
  rw [← hl1] at N1
  have b1 : ∀ p ∈ led, p ∈ l1 := fun p hp => by rw [hl1]; exact .tail _ hp
  clear hl1
  have b2 : ∀ p ∈ led, p.1 ≠ src → p.1 ≠ lst → p.1 ≠ mp → p ∈ keepA l1 [src, lst, mp] := fun p hp e1 e2 e3 => mem_keepA.mpr ⟨b1 p hp, by simp only [List.forall_mem_cons]; exact ⟨e1, e2, e3, fun _ h => nomatch h⟩⟩
  have f1 : (L + 1, kS) ∈ keepA l1 [src, lst, mp] := b2 _ a1 (ne_L (by omega)) (ne_L (by omega)) (ne_L (by omega))
  have f3 : (L + 1 + 1 + 1, kO) ∈ keepA l1 [src, lst, mp] := b2 _ a3 (ne_L (by omega)) (ne_L (by omega)) (ne_L (by omega))
  have f7 : (ob, instObj 414 dob) ∈ keepA l1 [src, lst, mp] := b2 _ a7 (ne_L (by omega)) (ne_L (by omega)) (ne_L (by omega))
  have f8 : (dob, oo) ∈ keepA l1 [src, lst, mp] := b2 _ a8 (ne_L (by omega)) (ne_L (by omega)) (ne_L (by omega))
  have N2 : News h₀ L _ ((src, so) :: (lst, lo) :: (mp, omp) :: keepA l1 [src, lst, mp]) := news_cons N1 (b1 _ a4) (news_cons N1 (b1 _ a5) (news_cons N1 (b1 _ a6) (News.sub N1 fun p hp => (mem_keepA.mp hp).1)))
  have off0 : ∀ p ∈ keepA l1 [src, lst, mp], p.1 ≠ src ∧ p.1 ≠ lst ∧ p.1 ≠ mp := fun p hp => by
    have := (mem_keepA.mp hp).2
    simp only [List.forall_mem_cons] at this
    exact ⟨this.1, this.2.1, this.2.2.1⟩
  have hold : ∀ p ∈ led, p.1 = src ∨ p.1 = lst ∨ p.1 = mp ∨ p ∈ keepA l1 [src, lst, mp] := fun p hp => by
    by_cases e1 : p.1 = src
    · exact .inl e1
    by_cases e2 : p.1 = lst
    · exact .inr (.inl e2)
    by_cases e3 : p.1 = mp
    · exact .inr (.inr (.inl e3))
    exact .inr (.inr (.inr (b2 p hp e1 e2 e3)))
  generalize keepA l1 [src, lst, mp] = R0 at b2 f1 f3 f7 f8 N2 off0 hold
  clear N1 b1
  refine' iter_ranO (n := rv.length) (JB w led R0 src lst mp m₀) rfl R1 ?zs ?zn F1 N2 ⟨so, lo, omp, R0, [], _, rfl, hS, fun p hp => hp, off0, ⟨[], hmp, Nat.le_refl _, fun j l h => by simp at h⟩, rfl, map_self _ _⟩ ?zt ?zd
  (case zs => exact (ran_ok hrv).1)
  (case zn => exact (ran_ok hrv).2)
  (case zd =>
    clear F1 N2
    rintro m l h9 tk9 ⟨o1, o2, om, rest, ml, u9, rfl, g1, g2, g3, g4, g5, rfl⟩ F9 N9
    exact k _ _ _ _ _ _ _ _ F9 N9 (fun p hp e1 e2 e3 => .tail _ (.tail _ (.tail _ (g2 _ (b2 p hp e1 e2 e3))))) (.head _) (.tail _ (.head _)) g1 (.tail _ (.tail _ (.head _))) (g4.mono fun p hp => .tail _ (.tail _ (.tail _ hp))) g5)
  (case zt =>
    clear F1 N2 R1
    rintro I hI i m l t9 h9 tk9 hin ⟨o1, o2, om, rest, ml, u9, rfl, g1, g2, g3, g4, g5, rfl⟩ ho F9 N9
    replace F9 : Fr h₀ L h9 _ := F9
    replace N9 : News h₀ L h9 _ := N9
    k_steps
    refine Held.of ?_
    k_here
    k_dflt (refine PyProof.Rows.LCt.ListComp_T (F₀ := by k_asm) (by with_unfolding_all rfl) (by decide) (by rfl) (by decide) (by rfl) ?_)
    k_steps
    refine Held.of ?_
    (rename Fr _ _ _ _ => F2); (rename News _ _ _ _ => N2); (rename IsRange _ _ _ _ _ _ _ _ => R2)
    refine grabL N2 fun l2 hl2 => ?_
    rw [← hl2] at N2
    have c2 : ∀ p ∈ rest, p ∈ l2 := fun p hp => by rw [hl2]; exact .tail _ (.tail _ (.tail _ (.tail _ (.tail _ hp))))
    have mI : (I, itR (0 + ((i + 1 : Nat) : Int)) ((rv.length : Int) - ((i + 1 : Nat) : Int))) ∈ keepA l2 [src, lst] := mem_keepA.mpr ⟨by rw [hl2]; exact .tail _ (.head _), by simp only [List.forall_mem_cons]; exact ⟨(ho _ (.head _)).symm, (ho _ (.tail _ (.head _))).symm, fun _ h => nomatch h⟩⟩
    have mM : (mp, om) ∈ keepA l2 [src, lst] := mem_keepA.mpr ⟨by rw [hl2]; exact .tail _ (.tail _ (.tail _ (.tail _ (.head _)))), by simp only [List.forall_mem_cons]; exact ⟨ne_L (by omega), ne_L (by omega), fun _ h => nomatch h⟩⟩
    have mR : ∀ p ∈ rest, p ∈ keepA l2 [src, lst] := fun p hp => mem_keepA.mpr ⟨c2 p hp, by simp only [List.forall_mem_cons]; exact ⟨(g3 p hp).1, (g3 p hp).2.1, fun _ h => nomatch h⟩⟩
    have N3 : News h₀ L _ ((src, o1) :: (lst, o2) :: keepA l2 [src, lst]) := news_cons N2 (by rw [hl2]; exact .tail _ (.tail _ (.head _))) (news_cons N2 (by rw [hl2]; exact .tail _ (.tail _ (.tail _ (.head _)))) (News.sub N2 fun p hp => (mem_keepA.mp hp).1))
    have off1 : ∀ p ∈ keepA l2 [src, lst], p.1 ≠ src ∧ p.1 ≠ lst := fun p hp => by
      have := (mem_keepA.mp hp).2
      simp only [List.forall_mem_cons] at this
      exact ⟨this.1, this.2.1⟩
    generalize keepA l2 [src, lst] = RR at mI mM mR N3 off1
    clear N2 c2 hl2
    have s1 := mR _ (g2 _ f1)
    have s3 := mR _ (g2 _ f3)
    have s7 := mR _ (g2 _ f7)
    have s8 := mR _ (g2 _ f8)
    refine PyProof.Rows.LCt.CompSrcT.range (n := 4) (by rfl) F2 N3 R2 (by decide) (by rfl) (by decide) ?_
    intro g
    refine comp_JT (JC src lst RR) ?yt ?yd 4 0 [] _ rfl ⟨o1, o2, [], rfl, g1, .nil, Nat.le_refl _, by simp⟩
    case yt =>
      clear F2 N3 R2
      rintro j ys nw v I2 oI C oC D m2 h8 tk8 E' hj ⟨o1', o2', offs, rfl, q1, q2, q3, q4⟩ ⟨t8, rfl⟩ hC hx F8 N8 off ne
      k_steps
      refine Held.of (wpAny_call (take_m (rest := (I2, oI) :: (C, oC) :: (D, PyProof.Rows.LCg.lst ys) :: RR) (hCx rfl rfl F8) (by omega) (by omega) N8 (.tail _ (.tail _ (.tail _ (.head _)))) (.tail _ (.tail _ (.tail _ (.tail _ (.head _))))) q1 ?hr ?hf (by decide) (by decide) hls ?_))
      case hr =>
        simp only [List.forall_mem_cons]
        exact ⟨.head _, .tail _ (.head _), .tail _ (.tail _ (.head _)), fun p hp => .tail _ (.tail _ (.tail _ (.tail _ (.tail _ hp))))⟩
      case hf =>
        simp only [List.forall_mem_cons] at off ⊢
        exact ⟨⟨off.1.1.symm, off.2.1.1.symm⟩, ⟨off.1.2.1.symm, off.2.1.2.1.symm⟩, ⟨off.1.2.2.symm, off.2.1.2.2.symm⟩, off1⟩
      k_whole
      intro h10 tk10 o3 o4 x10 t10 F10 N10 g10 y0 y1
      try dsimp only
      try k_sweep
      k_steps
      · refine Held.of (compEnd_of F10 N10 (.tail _ (.tail _ (.head _))) (.tail _ (.tail _ (.tail _ (.head _)))) (.tail _ (.tail _ (.tail _ (.tail _ (.head _))))) (news' := (src, o3) :: (lst, o4) :: RR) ?hs ?ho trivial ⟨o3, o4, offs ++ [4 * (0 + (j : Int)) - 24], rfl, g10, IntsAre.append q2 (.cons _ _ .nil), by rw [List.length_append]; exact Nat.succ_le_succ q3, ?hy⟩)
        case hs =>
          simp only [List.forall_mem_cons]
          exact ⟨.head _, .tail _ (.head _), fun p hp => .tail _ (.tail _ (.tail _ (.tail _ (.tail _ hp))))⟩
        case ho =>
          simp only [List.forall_mem_cons] at off ⊢
          exact off
        case hy =>
          intro y hy
          rcases List.mem_append.mp hy with hy | hy
          · exact q4 y hy
          · rw [List.mem_singleton.mp hy]
            exact OffOk.of hj
      · refine Held.of (compEnd_of F10 N10 (.tail _ (.tail _ (.head _))) (.tail _ (.tail _ (.tail _ (.head _)))) (.tail _ (.tail _ (.tail _ (.tail _ (.head _))))) (news' := (src, o3) :: (lst, o4) :: RR) ?hs ?ho trivial ⟨o3, o4, offs, rfl, g10, q2, Nat.le_succ_of_le q3, q4⟩)
        case hs =>
          simp only [List.forall_mem_cons]
          exact ⟨.head _, .tail _ (.head _), fun p hp => .tail _ (.tail _ (.tail _ (.tail _ (.tail _ hp))))⟩
        case ho =>
          simp only [List.forall_mem_cons] at off ⊢
          exact off
    case yd =>
      clear F2 N3 R2
      rintro ys nw ⟨o1', o2', offs, rfl, q1, q2, q3, q4⟩
      unfold PyProof.Rows.LCg.FinE
      intro D h8 tk8 F8 N8 oD
      k_steps
      refine Held.of ?_
      obtain ⟨kvs, e1, e2, e3⟩ := g4
      have hml : ml.length ≤ 100 := by omega
      have oDs : D ≠ src ∧ D ≠ lst ∧ ∀ p ∈ RR, p.1 ≠ D := ⟨oD.1.symm, oD.2.1.symm, off1_mem oD.2.2⟩
      have N9 : News h₀ L h8 ((mp, om) :: (D, PyProof.Rows.LCg.lst ys) :: (src, o1') :: (lst, o2') :: keepA RR [mp]) :=
        news_cons N8 (.tail _ (.tail _ (.tail _ mM))) (News.sub N8 (by
          simp only [List.forall_mem_cons]
          exact ⟨.head _, .tail _ (.head _), .tail _ (.tail _ (.head _)), fun p hp => .tail _ (.tail _ (.tail _ (mem_keepA.mp hp).1))⟩))
      refine map_put F8 N9 (UpdF.head ?hu) e1 (Nat.le_trans e2 (by omega)) ?_
      case hu =>
        simp only [List.forall_mem_cons]
        exact ⟨(oDs.2.2 _ mM).symm, ne_L (by omega), ne_L (by omega), fun p hp => by
          have := (mem_keepA.mp hp).2
          simp only [List.forall_mem_cons] at this
          exact this.1⟩
      k_whole
      intro h12 om' F12 N12 d12
      try dsimp only
      k_steps
      have hsub : ∀ p ∈ rest, p ∈ keepA ((D, PyProof.Rows.LCg.lst ys) :: keepA RR [mp]) [src, lst, mp, I] := fun p hp => mem_keepA.mpr ⟨.tail _ (mem_keepA.mpr ⟨mR p hp, by simp only [List.forall_mem_cons]; exact ⟨(g3 p hp).2.2, fun _ h => nomatch h⟩⟩), by
        simp only [List.forall_mem_cons]
        exact ⟨(g3 p hp).1, (g3 p hp).2.1, (g3 p hp).2.2, ho p (.tail _ (.tail _ (.tail _ hp))), fun _ h => nomatch h⟩⟩
      have hD : (D, PyProof.Rows.LCg.lst ys) ∈ keepA ((D, PyProof.Rows.LCg.lst ys) :: keepA RR [mp]) [src, lst, mp, I] := mem_keepA.mpr ⟨.head _, by
        simp only [List.forall_mem_cons]
        exact ⟨oDs.1, oDs.2.1, (oDs.2.2 _ mM).symm, (oDs.2.2 _ mI).symm, fun _ h => nomatch h⟩⟩
      have hIn : (I, itR (0 + ((i + 1 : Nat) : Int)) ((rv.length : Int) - ((i + 1 : Nat) : Int))) ∈ keepA RR [mp] := mem_keepA.mpr ⟨mI, by
        simp only [List.forall_mem_cons]
        exact ⟨(ho _ (.tail _ (.tail _ (.head _)))).symm, fun _ h => nomatch h⟩⟩
      refine UnrEnd.intro F12 N12 ((src, o1') :: (lst, o2') :: (mp, om') :: keepA ((D, PyProof.Rows.LCg.lst ys) :: keepA RR [mp]) [src, lst, mp, I]) ?hs ?hq ⟨o1', o2', om', _, ml ++ [offs], _, rfl, q1, fun p hp => hsub p (g2 p hp), fun p hp => ?h3, MapsAre.put e2 e3 g5 d12 hsub hD q2 q3 q4 (fun p hp => ?h5), by rw [List.length_append, g5]; rfl, map_again⟩
      case hs =>
        simp only [List.forall_mem_cons]
        exact ⟨.tail _ (.tail _ (.tail _ (.tail _ hIn))), .tail _ (.tail _ (.head _)), .tail _ (.tail _ (.tail _ (.head _))), .head _, fun p hp => by
          rcases List.mem_cons.mp (mem_keepA.mp hp).1 with rfl | hp
          · exact .tail _ (.head _)
          · exact .tail _ (.tail _ (.tail _ (.tail _ hp)))⟩
      case hq =>
        simp only [List.forall_mem_cons] at ho ⊢
        exact ⟨ho.1, ho.2.1, ho.2.2.1, fun p hp => by
          have := (mem_keepA.mp hp).2
          simp only [List.forall_mem_cons] at this
          exact this.2.2.2.1⟩
      case h3 =>
        have := (mem_keepA.mp hp).2
        simp only [List.forall_mem_cons] at this
        exact ⟨this.1, this.2.1, this.2.2.1⟩
      case h5 =>
        rcases hold p hp with e | e | e | e
        · rw [e]; exact oDs.1.symm
        · rw [e]; exact oDs.2.1.symm
        · rw [e]; exact oDs.2.2 _ mM
        · exact oDs.2.2 _ (mR _ (g2 _ e)))
end
end
section
open PySem PySem.W PyProof.Rows
theorem rst_29 {M : Model} {A : Around} {Q : Unit → Shared → Prop} {E : Value → Shared → Prop} {s : Shared} (h : Q () s) : wpAny M A (Sem.pure ()) Q E s := by
  w_top off
  first | walk1 | exact wpAny_pure h
end
section
open PySem PySem.W PyProof.Rows
theorem rst_30 {M : Model} {A : Around} {Q : Unit → Shared → Prop} {E : Value → Shared → Prop} {s : Shared} (h : Q () s) : wpAny M A (Sem.pure ()) Q E s := by
  w_top off
  first | walk1 | exact wpAny_pure h
end
section
open PySem PySem.W PySem.Calls PyProof.Rows PyProof.V
theorem fill_L3 : MineH.K = MineH.K ∧ PySem.Challenge.rw_pb0376_02 = PySem.Challenge.rw_pb0376_02 := by k_fill; exact ⟨rfl, rfl⟩
/-- where the frames lie -/
inductive JP (n : Nat) (RR : List (Addr × Obj)) (i : Nat) (ys : List Value) (l : List (Addr × Obj)) : Prop where
  | mk (e0 : l = RR) (g2 : IntsAre ys ((List.range i).map fun (i : Nat) => (464 : Int) - 32 * ((n : Int) - (i : Int)))) : JP n RR i ys l
section
variable {w : World} {A₀ : Around} {base h₀ : Heap} {L fa : Addr} {mg mb : Str → Option Value} {mean : ExcName → Option Value} {s : Shared} {Q : Flow → Shared → Prop} {R : Result → Shared → Prop}
  {d u : Nat} {gs : Option (List Code)} {oc : Value} {od : Option Addr} {name qual : Str} {params : Arguments} {body : List Stmt} {scope : Scope} {dV kV doc pm cdv ct cd : Value} {an : Option Addr} {osl : Array (Option Value)}
  {led : List (Addr × Obj)} {kM kC k7 om omem : Obj} {M dM mem dm hp cpu ld out gv wd : Addr} {n : Nat} {m₀ : Str → Option Value} {st : Stmt} {p7 : Option Value} {tc : Tok}
theorem law_p (hlk : List.lookup 430 (MineH.K w.params) = some ⟨oc, od, .func (fnOf name qual params body scope dV kV doc pm an cdv ct), osl⟩) (hst : body[8]? = some st)
  (B : Below A₀ base [] h₀) (F : Fr h₀ L s.heap m₀) (N : News h₀ L s.heap led) (X : (MineH.K w.params).In h₀) (T : Top MineH.qv LB mean mg mb h₀) (hdp : d < 400) (hu : u ≤ 800)
  (a2 : (L + 1 + 1, kM) ∈ led) (d2 : kM.data = .cell (some (.ref M))) (a5 : (L + 1 + 1 + 1 + 1 + 1, kC) ∈ led) (d5 : kC.data = .cell (some (.int (n : Int) tc))) (a7 : (L + 1 + 1 + 1 + 1 + 1 + 1 + 1, k7) ∈ led) (d7 : k7.data = .cell p7)
  (b1 : (M, instObj 393 dM) ∈ led) (b2 : (dM, om) ∈ led) (hom : MachB om mem hp cpu ld out gv 100) (b3 : (mem, instObj 301 dm) ∈ led) (b4 : (dm, omem) ∈ led) (hmem : MemB omem 464 wd) (hn : n ≤ 100)
  (k : ∀ h' tk led' D ys nn k7', Fr h₀ L h' m₀ → News h₀ L h' led' → (∀ p ∈ led, p.1 ≠ L + 1 + 1 + 1 + 1 + 1 + 1 + 1 → p ∈ led') → (∀ p ∈ led, p.1 ≠ D) → (D, lisOf ys nn) ∈ led' → (L + 1 + 1 + 1 + 1 + 1 + 1 + 1, k7') ∈ led' → k7'.data = .cell (some (.ref D)) → IntsAre ys (placesL n) →
    Q .next { s with heap := h', toks := tk }) :
  wpAny (model P2 w) (mkA none d (envOfC qual scope L fa cd) [] gs u) (exec st (envOfC qual scope L fa cd)) Q
    (fun e s' => wpAny (model P2 w) (mkA none d (envOfC qual scope L fa cd) [] gs u) (leaving (envOfC qual scope L fa cd) e) (fun _ s'' => R (.error e) s'') (fun e' s'' => R (.error e') s'') s') s := by
  rw [show List.lookup 430 (MineH.K w.params) = some _ from (by k_is)] at hlk
  cases hlk
  cases hst
  (try dsimp only)
  (try k_fold)
  have hCx : ∀ {m' : Str → Option Value} {h' : Heap} {env : Env}, env.frame = some L → env.scope.kind = .function → Fr h₀ L h' m' → Cb w A₀ base h₀ [] env L m' mg mb mean h' := fun e1 e2 F => ⟨B, F, X, T, e1, e2⟩
  k_steps
  refine Held.of ?_
  k_here
  k_dflt (refine PyProof.Rows.LCg.ListComp_U (F₀ := by k_asm) (by with_unfolding_all rfl) (by decide) (by rfl) (by decide) (by rfl) ?_)
  k_steps
  refine Held.of ?_
  (rename Fr _ _ _ _ => F1); (rename News _ _ _ _ => N1); (rename IsRange _ _ _ _ _ _ _ _ => R1)
  refine grabL N1 fun l1 hl1 => ?_
  rw [← hl1] at N1
  have e1 : ∀ p ∈ led, p ∈ l1 := fun p hp => by rw [hl1]; exact .tail _ hp
  clear hl1
  refine PyProof.Rows.LCg.CompSrc.range (n := n) (by rfl) F1 N1 R1 (ran_ok hn).1 (ran_ok hn).2 (by rw [sizeLine_eq]; omega) ?_
  intro g
  refine comp_J (JP n l1) ?yt ?yd n 0 [] _ (Nat.zero_add n) ⟨rfl, .nil⟩
  case yt =>
    clear F1 N1 R1
    rintro j ys nw v I2 oI C oC D m2 h8 tk8 E' hj ⟨rfl, q2⟩ ⟨t8, rfl⟩ hC hx F8 N8 off ne
    have a2' := e1 _ a2
    have a5' := e1 _ a5
    have b1' := e1 _ b1
    have b2' := e1 _ b2
    have b3' := e1 _ b3
    have b4' := e1 _ b4
    k_steps
    refine Held.of ?_
    (rename Fr _ _ _ _ => F9); (rename News _ _ _ _ => N9)
    refine compEnd_of F9 N9 (.head _) (.tail _ (.head _)) (.tail _ (.tail _ (.head _))) (news' := nw) (fun p hp => .tail _ (.tail _ (.tail _ hp))) off trivial ⟨rfl, ?hq⟩
    case hq =>
      rw [List.range_succ, List.map_append]
      refine IntsAre.append q2 ?_
      rw [Int.zero_add]
      exact .cons _ _ .nil
  case yd =>
    clear F1 N1 R1
    rintro ys nw ⟨rfl, q2⟩
    unfold PyProof.Rows.LCg.FinE
    intro D h8 tk8 F8 N8 oD
    have oD' := off1_mem oD
    have N9 : News h₀ L h8 ((L + 1 + 1 + 1 + 1 + 1 + 1 + 1, k7) :: (D, PyProof.Rows.LCg.lst ys) :: keepA nw [L + 1 + 1 + 1 + 1 + 1 + 1 + 1]) := news_cons N8 (.tail _ (e1 _ a7)) (news_cons N8 (.head _) (News.sub N8 fun p hp => .tail _ (mem_keepA.mp hp).1))
    clear N8
    have hoff : ∀ p ∈ (D, PyProof.Rows.LCg.lst ys) :: keepA nw [L + 1 + 1 + 1 + 1 + 1 + 1 + 1], p.1 ≠ L + 1 + 1 + 1 + 1 + 1 + 1 + 1 := by
      simp only [List.forall_mem_cons]
      exact ⟨(oD' _ (e1 _ a7)).symm, fun p hp => by
        have := (mem_keepA.mp hp).2
        simp only [List.forall_mem_cons] at this
        exact this.1⟩
    k_steps
    (rename News _ _ _ _ => N10); (rename Fr _ _ _ _ => F10); (rename (_ : Obj).data = Data.cell (some (Value.ref D)) => d10)
    refine k _ _ _ D ys _ _ F10 N10 (fun p hp h7 => ?h1) (fun p hp => oD' _ (e1 _ hp)) (.tail _ (.head _)) (.head _) d10 q2
    case h1 => exact .tail _ (.tail _ (mem_keepA.mpr ⟨e1 _ hp, by simp only [List.forall_mem_cons]; exact ⟨h7, fun _ h => nomatch h⟩⟩))
end
local macro_rules | `(tactic| walk_at "exec Assign cons ListComp") => `(tactic| refine held ?_)
inductive JR (src lst : Addr) (b : Int) (n : Nat) (RR : List (Addr × Obj)) (i : Nat) (ys : List Value) (l : List (Addr × Obj)) : Prop where
  | mk (o1 o2 : Obj) (rl : List Int) (e0 : l = (src, o1) :: (lst, o2) :: RR) (g1 : SrcIs lst o1 o2) (g2 : IntsAre ys rl) (g3 : rl.length = i) (g4 : ∀ y ∈ rl, b ≤ y ∧ y < b + n) : JR src lst b n RR i ys l
section
variable {w : World} {A₀ : Around} {base h₀ : Heap} {L fa : Addr} {mg mb : Str → Option Value} {mean : ExcName → Option Value} {s : Shared} {Q : Flow → Shared → Prop} {R : Result → Shared → Prop}
  {d u : Nat} {gs : Option (List Code)} {oc : Value} {od : Option Addr} {name qual : Str} {params : Arguments} {body : List Stmt} {scope : Scope} {dV kV doc pm cdv ct cd : Value} {an : Option Addr} {osl : Array (Option Value)}
  {led : List (Addr × Obj)} {kS kO kB kC so lo oo : Obj} {src lst ob dob rw mp : Addr} {rv : List Value} {nr n : Nat} {b : Int} {m₀ : Str → Option Value} {st : Stmt} {tb tc : Tok}
theorem law_r (hlk : List.lookup 430 (MineH.K w.params) = some ⟨oc, od, .func (fnOf name qual params body scope dV kV doc pm an cdv ct), osl⟩) (hst : body[9]? = some st)
  (B : Below A₀ base [] h₀) (F : Fr h₀ L s.heap m₀) (N : News h₀ L s.heap led) (X : (MineH.K w.params).In h₀) (T : Top MineH.qv LB mean mg mb h₀) (hdp : d < 400) (hu : u ≤ 800)
  (a1 : (L + 1, kS) ∈ led) (d1 : kS.data = .cell (some (.ref src))) (a3 : (L + 1 + 1 + 1, kO) ∈ led) (d3 : kO.data = .cell (some (.ref ob))) (a4 : (L + 1 + 1 + 1 + 1, kB) ∈ led) (d4 : kB.data = .cell (some (.int b tb)))
  (a5 : (L + 1 + 1 + 1 + 1 + 1, kC) ∈ led) (d5 : kC.data = .cell (some (.int (n : Int) tc))) (hn : n ≤ 100)
  (b1 : (src, so) ∈ led) (b2 : (lst, lo) ∈ led) (hS : SrcIs lst so lo) (hls : @LT.lt Nat _ lst src) (b3 : (ob, instObj 414 dob) ∈ led) (b4 : (dob, oo) ∈ led) (hO : ObjB oo rw mp) (b5 : (rw, lisOf rv nr) ∈ led) (hr0 : 0 < rv.length) (hr1 : rv.length ≤ 100)
  (n1 : @LT.lt Nat _ (L + 1 + 1 + 1 + 1 + 1 + 1 + 1) lst) (n2 : @LT.lt Nat _ src dob) (n3 : @LT.lt Nat _ dob ob) (n4 : @LT.lt Nat _ ob rw)
  (k : ∀ h' tk led' D ys nn so' lo' rl, Fr h₀ L h' (fun z => if z = Str.ofString "rows" then some (.ref D) else m₀ z) → News h₀ L h' led' → (∀ p ∈ led, p.1 ≠ src → p.1 ≠ lst → p ∈ led') → (∀ p ∈ led, p.1 ≠ D) → (D, lisOf ys nn) ∈ led' → (src, so') ∈ led' → (lst, lo') ∈ led' → SrcIs lst so' lo' →
    IntsAre ys rl → rl.length = n → (∀ y ∈ rl, b ≤ y ∧ y < b + rv.length) → Q .next { s with heap := h', toks := tk }) :
  wpAny (model P2 w) (mkA none d (envOfC qual scope L fa cd) [] gs u) (exec st (envOfC qual scope L fa cd)) Q
    (fun e s' => wpAny (model P2 w) (mkA none d (envOfC qual scope L fa cd) [] gs u) (leaving (envOfC qual scope L fa cd) e) (fun _ s'' => R (.error e) s'') (fun e' s'' => R (.error e') s'') s') s := by
  rw [show List.lookup 430 (MineH.K w.params) = some _ from (by k_is)] at hlk
  cases hlk
  cases hst
  (try dsimp only)
  (try k_fold)
  have hCx : ∀ {m' : Str → Option Value} {h' : Heap} {env : Env}, env.frame = some L → env.scope.kind = .function → Fr h₀ L h' m' → Cb w A₀ base h₀ [] env L m' mg mb mean h' := fun e1 e2 F => ⟨B, F, X, T, e1, e2⟩
  have hrn : rv.length ≤ 100000 := by omega
  k_steps
  refine Held.of ?_
  k_here
  k_dflt (refine PyProof.Rows.LCg.Assign_ListComp_U (F₀ := by k_asm) (by rfl) (by with_unfolding_all rfl) (by with_unfolding_all rfl) (by decide) (by rfl) (by decide) (by rfl) (by rfl) (by rfl) ?_)
  k_steps
  refine Held.of ?_
  (rename Fr _ _ _ _ => F1); (rename News _ _ _ _ => N1); (rename IsRange _ _ _ _ _ _ _ _ => R1)
  refine grabL N1 fun l1 hl1 => ?_
  rw [← hl1] at N1
  have e1 : ∀ p ∈ led, p ∈ l1 := fun p hp => by rw [hl1]; exact .tail _ hp
  clear hl1
  have e2 : ∀ p ∈ led, p.1 ≠ src → p.1 ≠ lst → p ∈ keepA l1 [src, lst] := fun p hp h1 h2 => mem_keepA.mpr ⟨e1 p hp, by simp only [List.forall_mem_cons]; exact ⟨h1, h2, fun _ h => nomatch h⟩⟩
  have off1 : ∀ p ∈ keepA l1 [src, lst], p.1 ≠ src ∧ p.1 ≠ lst := fun p hp => by
    have := (mem_keepA.mp hp).2
    simp only [List.forall_mem_cons] at this
    exact ⟨this.1, this.2.1⟩
  have N2 : News h₀ L _ ((src, so) :: (lst, lo) :: keepA l1 [src, lst]) := news_cons N1 (e1 _ b1) (news_cons N1 (e1 _ b2) (News.sub N1 fun p hp => (mem_keepA.mp hp).1))
  have s1 := e2 _ a1 (ne_L (by omega)) (ne_L (by omega))
  have s3 := e2 _ a3 (ne_L (by omega)) (ne_L (by omega))
  have s4 := e2 _ a4 (ne_L (by omega)) (ne_L (by omega))
  have s7 := e2 _ b3 (ne_L (by omega)) (ne_L (by omega))
  have s8 := e2 _ b4 (ne_L (by omega)) (ne_L (by omega))
  have s9 := e2 _ b5 (ne_L (by omega)) (ne_L (by omega))
  generalize keepA l1 [src, lst] = RR at e2 off1 N2 s1 s3 s4 s7 s8 s9
  clear N1 e1
  refine PyProof.Rows.LCg.CompSrc.range (n := n) (by rfl) F1 N2 R1 (ran_ok hn).1 (ran_ok hn).2 (by rw [sizeLine_eq]; omega) ?_
  intro g
  refine comp_J (JR src lst b rv.length RR) ?yt ?yd n 0 [] _ (Nat.zero_add n) ⟨so, lo, [], rfl, hS, .nil, rfl, fun _ h => nomatch h⟩
  case yt =>
    clear F1 N2 R1
    rintro j ys nw v I2 oI C oC D m2 h8 tk8 E' hj ⟨o1', o2', rl, rfl, q1, q2, q3, q4⟩ ⟨t8, rfl⟩ hC hx F8 N8 off ne
    k_steps
    refine Held.of (wpAny_call (take_m (rest := (I2, oI) :: (C, oC) :: (D, PyProof.Rows.LCg.lst ys) :: RR) (hCx rfl rfl F8) (by omega) (by omega) N8 (.tail _ (.tail _ (.tail _ (.head _)))) (.tail _ (.tail _ (.tail _ (.tail _ (.head _))))) q1 ?hr ?hf (by omega) (by omega) hls ?_))
    case hr =>
      simp only [List.forall_mem_cons]
      exact ⟨.head _, .tail _ (.head _), .tail _ (.tail _ (.head _)), fun p hp => .tail _ (.tail _ (.tail _ (.tail _ (.tail _ hp))))⟩
    case hf =>
      simp only [List.forall_mem_cons] at off ⊢
      exact ⟨⟨off.1.1.symm, off.2.1.1.symm⟩, ⟨off.1.2.1.symm, off.2.1.2.1.symm⟩, ⟨off.1.2.2.symm, off.2.1.2.2.symm⟩, off1⟩
    k_whole
    intro h10 tk10 o3 o4 x10 t10 F10 N10 g10 y0 y1
    try dsimp only
    try k_sweep
    k_steps
    refine Held.of (compEnd_of F10 N10 (.tail _ (.tail _ (.head _))) (.tail _ (.tail _ (.tail _ (.head _)))) (.tail _ (.tail _ (.tail _ (.tail _ (.head _))))) (news' := (src, o3) :: (lst, o4) :: RR) ?hs ?ho trivial ⟨o3, o4, rl ++ [b + x10], rfl, g10, IntsAre.append q2 (.cons _ _ .nil), by rw [List.length_append, q3]; rfl, ?hy⟩)
    case hs =>
      simp only [List.forall_mem_cons]
      exact ⟨.head _, .tail _ (.head _), fun p hp => .tail _ (.tail _ (.tail _ (.tail _ (.tail _ hp))))⟩
    case ho =>
      simp only [List.forall_mem_cons] at off ⊢
      exact off
    case hy =>
      intro y hy
      rcases List.mem_append.mp hy with hy | hy
      · exact q4 y hy
      · rw [List.mem_singleton.mp hy]
        omega
  case yd =>
    clear F1 N2 R1
    rintro ys nw ⟨o1', o2', rl, rfl, q1, q2, q3, q4⟩
    unfold PyProof.Rows.LCg.FinA
    intro D h8 tk8 F8 N8 oD
    have oD' := off1_mem oD
    try dsimp only
    refine k _ _ _ D ys _ o1' o2' rl F8 N8 (fun p hp h1 h2 => .tail _ (.tail _ (.tail _ (e2 p hp h1 h2)))) (fun p hp => ?hf) (.head _) (.tail _ (.head _)) (.tail _ (.tail _ (.head _))) q1 q2 q3 q4
    case hf =>
      by_cases h1 : p.1 = src
      · rw [h1]; exact oD' _ (.head _)
      by_cases h2 : p.1 = lst
      · rw [h2]; exact oD' _ (.tail _ (.head _))
      exact oD' _ (.tail _ (.tail _ (e2 p hp h1 h2)))
end
end
section
open PySem PySem.W PyProof.Rows
theorem rst_31 {M : Model} {A : Around} {Q : Unit → Shared → Prop} {E : Value → Shared → Prop} {s : Shared} (h : Q () s) : wpAny M A (Sem.pure ()) Q E s := by
  w_top off
  first | walk1 | exact wpAny_pure h
end
section
open PySem PySem.W PyProof.Rows
theorem rst_32 {M : Model} {A : Around} {Q : Unit → Shared → Prop} {E : Value → Shared → Prop} {s : Shared} (h : Q () s) : wpAny M A (Sem.pure ()) Q E s := by
  w_top off
  first | walk1 | exact wpAny_pure h
end
section
open PySem PySem.W PySem.Calls PyProof.Rows PyProof.V
theorem fill_L4 : MineH.K = MineH.K ∧ PySem.Challenge.rw_pb0376_02 = PySem.Challenge.rw_pb0376_02 := by k_fill; exact ⟨rfl, rfl⟩
local macro_rules | `(tactic| walk_at "exec For Name Call cons nil") => `(tactic| refine held ?_)
local macro_rules | `(tactic| walk_at "compareOp Lt int int") => `(tactic| (k_here; first | refine lt_true9 (by omega) ?_ | refine lt_false9 (by omega) ?_))
local macro_rules | `(tactic| walk_at "subscriptTail") => `(tactic| (k_here; (with_reducible show wpAny _ _ (subscriptTail _ _ (Value.ref _) (Value.int _ _)) _ _ _); k_dflt (refine' sub_map ?N ?m ?d ?v ?_; (case N => k_asm); (case m => k_mem); (case d => with_reducible assumption); (case v => with_reducible assumption); k_whole)))
local macro_rules | `(tactic| walk_at "call builtin:list.append") => `(tactic| refine held ?_)
inductive JE (g : Int → Int) (l9 : List Int) (RR : List (Addr × Obj)) (i : Nat) (ys : List Value) (l : List (Addr × Obj)) : Prop where
  | mk (e0 : l = RR) (g2 : IntsAre ys ((l9.take i).map g)) : JE g l9 RR i ys l
/-- between the turns of the main loop -/
inductive JD (w : World) (old R : List (Addr × Obj)) (src lst wd wa : Addr) (L : Addr) (n bk : Nat) (b : Int) (ml : List (List Int)) (rl : List Int) (m₀ : Str → Option Value) (i : Nat) (m : Str → Option Value) (l : List (Addr × Obj)) : Prop where
  | mk (o1 o2 ow ka : Obj) (wv : List Value) (nw c : Nat) (f : Int → Int) (wl : List (List Int)) (rest : List (Addr × Obj)) (u1 u2 : Option Value) (p6 : Option Value)
    (e0 : l = (src, o1) :: (lst, o2) :: (wd, ow) :: (wa, lisOf wv nw) :: (L + 1 + 1 + 1 + 1 + 1 + 1, ka) :: rest) (g1 : SrcIs lst o1 o2) (g2 : Words P2 w ow f c) (g3 : c ≤ 200 + 6 * i) (g4 : ka.data = .cell p6) (g5 : ∀ p ∈ R, p ∈ rest)
    (g6 : ∀ p ∈ rest, p.1 ≠ src ∧ p.1 ≠ lst ∧ p.1 ≠ wd ∧ p.1 ≠ wa ∧ p.1 ≠ L + 1 + 1 + 1 + 1 + 1 + 1) (g7 : WordsAre old rest wv wl) (g8 : Done n bk b ml rl f i wl)
    (e9 : m = fun y => if y = Str.ofString "spot" then u1 else if y = Str.ofString "following" then u2 else m₀ y) : JD w old R src lst wd wa L n bk b ml rl m₀ i m l
inductive JI (w : World) (src lst wd : Addr) (RI : List (Addr × Obj)) (n io c0 : Nat) (f0 : Int → Int) (m₀ : Str → Option Value) (i : Nat) (m : Str → Option Value) (l : List (Addr × Obj)) : Prop where
  | mk (o1 o2 ow : Obj) (c : Nat) (f : Int → Int) (u : Option Value) (e0 : l = (src, o1) :: (lst, o2) :: (wd, ow) :: RI) (g1 : SrcIs lst o1 o2) (g2 : Words P2 w ow f c) (g3 : c ≤ c0 + i) (g4 : Below9 n io f0 f) (e9 : m = fun y => if y = Str.ofString "spot" then u else m₀ y) : JI w src lst wd RI n io c0 f0 m₀ i m l
theorem map_self2' (m : Str → Option Value) (a b : Str) : m = fun y => if y = a then m a else if y = b then m b else m y := map_self2 m a b
section
variable {w : World} {A₀ : Around} {base h₀ : Heap} {L fa : Addr} {mg mb : Str → Option Value} {mean : ExcName → Option Value} {s : Shared} {Q : Flow → Shared → Prop} {R : Result → Shared → Prop}
  {d u : Nat} {gs : Option (List Code)} {oc : Value} {od : Option Addr} {name qual : Str} {params : Arguments} {body : List Stmt} {scope : Scope} {dV kV doc pm cdv ct cd : Value} {an : Option Addr} {osl : Array (Option Value)}
  {led : List (Addr × Obj)} {kS kM kO kB kC ka0 kP so lo ow om omem oo omp : Obj} {lst src dM M dm mem wd dc cpu rg rows t9 ld dob ob mp rw dla la pl ra wa hp out gv : Addr} {pv rv9 : List Value} {nP nR nW n bk c : Nat} {b : Int} {ml : List (List Int)} {rl : List Int} {f : Int → Int} {tb tc tk' : Tok} {p6 : Option Value} {m9 : Str → Option Value} {st : Stmt}
theorem law_d (hlk : List.lookup 430 (MineH.K w.params) = some ⟨oc, od, .func (fnOf name qual params body scope dV kV doc pm an cdv ct), osl⟩) (hst : body[12]? = some st)
  (B : Below A₀ base [] h₀) (F : Fr h₀ L s.heap (fun y => if y = Str.ofString "words" then some (.ref wa) else if y = Str.ofString "back" then some (.int (bk : Int) tk') else if y = Str.ofString "rows" then some (.ref ra) else m9 y)) (N : News h₀ L s.heap led) (X : (MineH.K w.params).In h₀) (T : Top MineH.qv LB mean mg mb h₀) (hdp : d < 400) (hu : u ≤ 800)
  (hls : @LT.lt Nat _ lst src) (A9 : ApL [L + 1, L + 1 + 1, L + 1 + 1 + 1, L + 1 + 1 + 1 + 1, L + 1 + 1 + 1 + 1 + 1, L + 1 + 1 + 1 + 1 + 1 + 1, L + 1 + 1 + 1 + 1 + 1 + 1 + 1, lst, src, dM, M, dm, mem, wd, dc, cpu, rg, rows, t9, ld, dob, ob, mp, rw, dla, la, pl, ra, wa])
  (a1 : (L + 1, kS) ∈ led) (d1 : kS.data = .cell (some (.ref src))) (a2 : (L + 1 + 1, kM) ∈ led) (d2 : kM.data = .cell (some (.ref M))) (a3 : (L + 1 + 1 + 1, kO) ∈ led) (d3 : kO.data = .cell (some (.ref ob))) (a4 : (L + 1 + 1 + 1 + 1, kB) ∈ led) (d4 : kB.data = .cell (some (.int b tb)))
  (a5 : (L + 1 + 1 + 1 + 1 + 1, kC) ∈ led) (d5 : kC.data = .cell (some (.int (n : Int) tc))) (a6 : (L + 1 + 1 + 1 + 1 + 1 + 1, ka0) ∈ led) (d6 : ka0.data = .cell p6) (a7 : (L + 1 + 1 + 1 + 1 + 1 + 1 + 1, kP) ∈ led) (d7 : kP.data = .cell (some (.ref pl)))
  (s1 : (src, so) ∈ led) (s2 : (lst, lo) ∈ led) (hS : SrcIs lst so lo) (b1 : (M, instObj 393 dM) ∈ led) (b2 : (dM, om) ∈ led) (hom : MachB om mem hp cpu ld out gv 100) (b3 : (mem, instObj 301 dm) ∈ led) (b4 : (dm, omem) ∈ led) (hmem : MemB omem 464 wd)
  (b5 : (wd, ow) ∈ led) (hW : Words P2 w ow f c) (hc : c ≤ 200) (hwd : (wd == sysModules) = false) (b6 : (wa, lisOf [] nW) ∈ led) (b7 : (ob, instObj 414 dob) ∈ led) (b8 : (dob, oo) ∈ led) (hO : ObjB oo rw mp) (b9 : (mp, omp) ∈ led)
  (hmaps : MapsAre w [(src, so), (lst, so), (wd, so), (wa, so), (L + 1 + 1 + 1 + 1 + 1 + 1, so)] led omp ml) (b10 : (pl, lisOf pv nP) ∈ led) (hpv : IntsAre pv (placesL n)) (b11 : (ra, lisOf rv9 nR) ∈ led) (hrv : IntsAre rv9 rl) (hrl : rl.length = n) (hr9 : ∀ y ∈ rl, b ≤ y ∧ y < b + ml.length)
  (hb0 : 0 ≤ b) (hb1 : b + ml.length ≤ 900) (hn0 : 0 < n) (hn : n ≤ 6) (hbk : bk < n) (hmo : ∀ l ∈ ml, ∀ o ∈ l, OffOk o)
  (k : ∀ h' tk m' led' so' lo' ow' ka' p6' wv nw c' f' wl u1 u2, Fr h₀ L h' m' → News h₀ L h' led' → (∀ p ∈ led, p.1 ≠ src → p.1 ≠ lst → p.1 ≠ wd → p.1 ≠ wa → p.1 ≠ L + 1 + 1 + 1 + 1 + 1 + 1 → p ∈ led') → (src, so') ∈ led' → (lst, lo') ∈ led' → SrcIs lst so' lo' → (wd, ow') ∈ led' → Words P2 w ow' f' c' → c' ≤ 300 → (wa, lisOf wv nw) ∈ led' → (L + 1 + 1 + 1 + 1 + 1 + 1, ka') ∈ led' → ka'.data = .cell p6' →
    WordsAre led led' wv wl → Done n bk b ml rl f' n wl → (m' = fun y => if y = Str.ofString "spot" then u1 else if y = Str.ofString "following" then u2 else if y = Str.ofString "words" then some (.ref wa) else if y = Str.ofString "back" then some (.int (bk : Int) tk') else if y = Str.ofString "rows" then some (.ref ra) else m9 y) → Q .next { s with heap := h', toks := tk }) :
  wpAny (model P2 w) (mkA none d (envOfC qual scope L fa cd) [] gs u) (exec st (envOfC qual scope L fa cd)) Q
    (fun e s' => wpAny (model P2 w) (mkA none d (envOfC qual scope L fa cd) [] gs u) (leaving (envOfC qual scope L fa cd) e) (fun _ s'' => R (.error e) s'') (fun e' s'' => R (.error e') s'') s') s := by
  rw [show List.lookup 430 (MineH.K w.params) = some _ from (by k_is)] at hlk
  cases hlk
  cases hst
  (try dsimp only)
  (try k_fold)
  have hCx : ∀ {m' : Str → Option Value} {h' : Heap} {env : Env}, env.frame = some L → env.scope.kind = .function → Fr h₀ L h' m' → Cb w A₀ base h₀ [] env L m' mg mb mean h' := fun e1 e2 F => ⟨B, F, X, T, e1, e2⟩
  refine For_turns F ?_
  k_whole
  k_steps
  refine Held.of ?_
  (rename Fr _ _ _ _ => F1); (rename News _ _ _ _ => N1); (rename IsRange _ _ _ _ _ _ _ _ => R1)
  refine grabL N1 fun l1 hl1 => ?_
  rw [← hl1] at N1
  have e0 : ∀ p ∈ led, p ∈ l1 := fun p hp => by rw [hl1]; exact .tail _ hp
  clear hl1
  have e1 : ∀ p ∈ led, p.1 ≠ src → p.1 ≠ lst → p.1 ≠ wd → p.1 ≠ wa → p.1 ≠ L + 1 + 1 + 1 + 1 + 1 + 1 → p ∈ keepA l1 [src, lst, wd, wa, L + 1 + 1 + 1 + 1 + 1 + 1] := fun p hp q1 q2 q3 q4 q5 => mem_keepA.mpr ⟨e0 p hp, by simp only [List.forall_mem_cons]; exact ⟨q1, q2, q3, q4, q5, fun _ h => nomatch h⟩⟩
  have off0 : ∀ p ∈ keepA l1 [src, lst, wd, wa, L + 1 + 1 + 1 + 1 + 1 + 1], p.1 ≠ src ∧ p.1 ≠ lst ∧ p.1 ≠ wd ∧ p.1 ≠ wa ∧ p.1 ≠ L + 1 + 1 + 1 + 1 + 1 + 1 := fun p hp => by
    have := (mem_keepA.mp hp).2
    simp only [List.forall_mem_cons] at this
    exact ⟨this.1, this.2.1, this.2.2.1, this.2.2.2.1, this.2.2.2.2.1⟩
  have f1 := e1 _ a1 (A9.ne 0 8 rfl rfl rfl) (A9.ne 0 7 rfl rfl rfl) (A9.ne 0 13 rfl rfl rfl) (A9.ne 0 28 rfl rfl rfl) (A9.ne 0 5 rfl rfl rfl)
  have f2 := e1 _ a2 (A9.ne 1 8 rfl rfl rfl) (A9.ne 1 7 rfl rfl rfl) (A9.ne 1 13 rfl rfl rfl) (A9.ne 1 28 rfl rfl rfl) (A9.ne 1 5 rfl rfl rfl)
  have f3 := e1 _ a3 (A9.ne 2 8 rfl rfl rfl) (A9.ne 2 7 rfl rfl rfl) (A9.ne 2 13 rfl rfl rfl) (A9.ne 2 28 rfl rfl rfl) (A9.ne 2 5 rfl rfl rfl)
  have f4 := e1 _ a4 (A9.ne 3 8 rfl rfl rfl) (A9.ne 3 7 rfl rfl rfl) (A9.ne 3 13 rfl rfl rfl) (A9.ne 3 28 rfl rfl rfl) (A9.ne 3 5 rfl rfl rfl)
  have f5 := e1 _ a5 (A9.ne 4 8 rfl rfl rfl) (A9.ne 4 7 rfl rfl rfl) (A9.ne 4 13 rfl rfl rfl) (A9.ne 4 28 rfl rfl rfl) (A9.ne 4 5 rfl rfl rfl)
  have f7 := e1 _ a7 (A9.ne 6 8 rfl rfl rfl) (A9.ne 6 7 rfl rfl rfl) (A9.ne 6 13 rfl rfl rfl) (A9.ne 6 28 rfl rfl rfl) (A9.ne 6 5 rfl rfl rfl)
  have fM := e1 _ b1 (A9.ne 10 8 rfl rfl rfl) (A9.ne 10 7 rfl rfl rfl) (A9.ne 10 13 rfl rfl rfl) (A9.ne 10 28 rfl rfl rfl) (A9.ne 10 5 rfl rfl rfl)
  have fdM := e1 _ b2 (A9.ne 9 8 rfl rfl rfl) (A9.ne 9 7 rfl rfl rfl) (A9.ne 9 13 rfl rfl rfl) (A9.ne 9 28 rfl rfl rfl) (A9.ne 9 5 rfl rfl rfl)
  have fm := e1 _ b3 (A9.ne 12 8 rfl rfl rfl) (A9.ne 12 7 rfl rfl rfl) (A9.ne 12 13 rfl rfl rfl) (A9.ne 12 28 rfl rfl rfl) (A9.ne 12 5 rfl rfl rfl)
  have fdm := e1 _ b4 (A9.ne 11 8 rfl rfl rfl) (A9.ne 11 7 rfl rfl rfl) (A9.ne 11 13 rfl rfl rfl) (A9.ne 11 28 rfl rfl rfl) (A9.ne 11 5 rfl rfl rfl)
  have fo := e1 _ b7 (A9.ne 21 8 rfl rfl rfl) (A9.ne 21 7 rfl rfl rfl) (A9.ne 21 13 rfl rfl rfl) (A9.ne 21 28 rfl rfl rfl) (A9.ne 21 5 rfl rfl rfl)
  have fdo := e1 _ b8 (A9.ne 20 8 rfl rfl rfl) (A9.ne 20 7 rfl rfl rfl) (A9.ne 20 13 rfl rfl rfl) (A9.ne 20 28 rfl rfl rfl) (A9.ne 20 5 rfl rfl rfl)
  have fmp := e1 _ b9 (A9.ne 22 8 rfl rfl rfl) (A9.ne 22 7 rfl rfl rfl) (A9.ne 22 13 rfl rfl rfl) (A9.ne 22 28 rfl rfl rfl) (A9.ne 22 5 rfl rfl rfl)
  have fpl := e1 _ b10 (A9.ne 26 8 rfl rfl rfl) (A9.ne 26 7 rfl rfl rfl) (A9.ne 26 13 rfl rfl rfl) (A9.ne 26 28 rfl rfl rfl) (A9.ne 26 5 rfl rfl rfl)
  have fra := e1 _ b11 (A9.ne 27 8 rfl rfl rfl) (A9.ne 27 7 rfl rfl rfl) (A9.ne 27 13 rfl rfl rfl) (A9.ne 27 28 rfl rfl rfl) (A9.ne 27 5 rfl rfl rfl)
  obtain ⟨kvs, km1, km2, km3⟩ := hmaps
  have hmp3 : ∀ (j : Nat) l, ml[j]? = some l → ∃ x vs k, valueAt kvs (j : Int) = some (.ref x) ∧ (x, lisOf vs k) ∈ keepA l1 [src, lst, wd, wa, L + 1 + 1 + 1 + 1 + 1 + 1] ∧ IntsAre vs l ∧ vs.length ≤ 4 ∧ ∀ y ∈ l, OffOk y := fun j l hj => by
    obtain ⟨x, vs, k, q1, q2, q3, q4, q5, q6⟩ := km3 j l hj
    simp only [List.forall_mem_cons] at q6
    exact ⟨x, vs, k, q1, e1 _ q2 q6.1.symm q6.2.1.symm q6.2.2.1.symm q6.2.2.2.1.symm q6.2.2.2.2.1.symm, q3, q4, q5⟩
  have N2 : News h₀ L _ ((src, so) :: (lst, lo) :: (wd, ow) :: (wa, lisOf [] nW) :: (L + 1 + 1 + 1 + 1 + 1 + 1, ka0) :: keepA l1 [src, lst, wd, wa, L + 1 + 1 + 1 + 1 + 1 + 1]) := news_cons N1 (e0 _ s1) (news_cons N1 (e0 _ s2) (news_cons N1 (e0 _ b5) (news_cons N1 (e0 _ b6) (news_cons N1 (e0 _ a6) (News.sub N1 fun p hp => (mem_keepA.mp hp).1)))))
  generalize keepA l1 [src, lst, wd, wa, L + 1 + 1 + 1 + 1 + 1 + 1] = R0 at e1 off0 hmp3 N2 f1 f2 f3 f4 f5 f7 fM fdM fm fdm fo fdo fmp fpl fra
  clear N1 e0 km3
  refine iter_ranT (n := n) (JD w led R0 src lst wd wa L n bk b ml rl (fun y => if y = Str.ofString "words" then some (.ref wa) else if y = Str.ofString "back" then some (.int (bk : Int) tk') else if y = Str.ofString "rows" then some (.ref ra) else m9 y)) rfl R1 (ran_ok (by omega)).1 (ran_ok (by omega)).2 F1 N2
    ⟨so, lo, ow, ka0, [], nW, c, f, [], R0, _, _, p6, rfl, hS, hW, by omega, d6, fun p hp => hp, off0, trivial, Done.zero, map_self2 _ _ _⟩ ?zt ?zd
  case zd =>
    clear F1 N2
    rintro m l h9 tk9 ⟨o1, o2, ow', ka, wv, nw, c', f', wl, rest, u1, u2, p6', rfl, g1, g2, g3, g4, g5, g6, g7, g8, rfl⟩ F9 N9
    exact k _ _ _ _ o1 o2 ow' ka p6' wv nw c' f' wl u1 u2 F9 N9 (fun p hp q1 q2 q3 q4 q5 => .tail _ (.tail _ (.tail _ (.tail _ (.tail _ (g5 _ (e1 p hp q1 q2 q3 q4 q5))))))) (.head _) (.tail _ (.head _)) g1 (.tail _ (.tail _ (.head _))) g2 (by omega) (.tail _ (.tail _ (.tail _ (.head _)))) (.tail _ (.tail _ (.tail _ (.tail _ (.head _))))) g4 (g7.mono fun p hp => .tail _ (.tail _ (.tail _ (.tail _ (.tail _ hp))))) g8 rfl
  case zt =>
    clear F1 N2 R1
    rintro I hI i m l ti h9 tk9 hin ⟨o1, o2, ow', ka, wv, nw, c', f', wl, rest, u1, u2, p6', rfl, g1, g2, g3, g4, g5, g6, g7, g8, rfl⟩ ho F9 N9
    replace F9 : Fr h₀ L h9 _ := F9
    replace N9 : News h₀ L h9 _ := N9
    simp only [List.forall_mem_cons] at ho
    obtain ⟨hoS, hoL, hoW, hoA, ho6, hoR⟩ := ho
    have n6s : @Ne Nat src (L + 1 + 1 + 1 + 1 + 1 + 1) := A9.ne 8 5 rfl rfl rfl
    have n6l : @Ne Nat lst (L + 1 + 1 + 1 + 1 + 1 + 1) := A9.ne 7 5 rfl rfl rfl
    have n6w : @Ne Nat wd (L + 1 + 1 + 1 + 1 + 1 + 1) := A9.ne 13 5 rfl rfl rfl
    have n6a : @Ne Nat wa (L + 1 + 1 + 1 + 1 + 1 + 1) := A9.ne 28 5 rfl rfl rfl
    have n6I : @Ne Nat I (L + 1 + 1 + 1 + 1 + 1 + 1) := ho6.symm
    have off6 : ∀ p ∈ rest, p.1 ≠ L + 1 + 1 + 1 + 1 + 1 + 1 := fun p hp => (g6 p hp).2.2.2.2
    k_steps
    refine Held.of ?_
    (rename News _ _ _ _ => N10); (rename Fr _ _ _ _ => F10); (rename (_ : Obj).data = Data.cell (some (Value.int (0 + (i : Int)) ti)) => da)
    refine grabC da fun kA e => ?_
    subst e
    obtain ⟨RI, hRI⟩ : ∃ RI, RI = (I, itR (0 + ((i + 1 : Nat) : Int)) ((n : Int) - ((i + 1 : Nat) : Int))) :: (wa, lisOf wv nw) :: (L + 1 + 1 + 1 + 1 + 1 + 1, kA) :: rest := ⟨_, rfl⟩
    have rR : ∀ p ∈ rest, p ∈ RI := fun p hp => by rw [hRI]; exact .tail _ (.tail _ (.tail _ hp))
    have rI : (I, itR (0 + ((i + 1 : Nat) : Int)) ((n : Int) - ((i + 1 : Nat) : Int))) ∈ RI := by rw [hRI]; exact .head _
    have rA : (wa, lisOf wv nw) ∈ RI := by rw [hRI]; exact .tail _ (.head _)
    have r6 : (L + 1 + 1 + 1 + 1 + 1 + 1, kA) ∈ RI := by rw [hRI]; exact .tail _ (.tail _ (.head _))
    have offI : ∀ p ∈ RI, p.1 ≠ src ∧ p.1 ≠ lst ∧ p.1 ≠ wd := by
      rw [hRI]
      simp only [List.forall_mem_cons]
      exact ⟨⟨hoS.symm, hoL.symm, hoW.symm⟩, ⟨A9.ne 28 8 rfl rfl rfl, A9.ne 28 7 rfl rfl rfl, A9.ne 28 13 rfl rfl rfl⟩, ⟨n6s.symm, n6l.symm, n6w.symm⟩, fun p hp => ⟨(g6 p hp).1, (g6 p hp).2.1, (g6 p hp).2.2.1⟩⟩
    have N11 : News h₀ L _ ((src, o1) :: (lst, o2) :: (wd, ow') :: RI) := News.sub N10 (by
      rw [hRI]
      simp only [List.forall_mem_cons]
      exact ⟨by k_mem, by k_mem, by k_mem, by k_mem, by k_mem, by k_mem, fun p hp => .tail _ (.tail _ (.tail _ (.tail _ (.tail _ (.tail _ hp)))))⟩)
    have z1 := rR _ (g5 _ f1)
    have z2 := rR _ (g5 _ f2)
    have z3 := rR _ (g5 _ f3)
    have z4 := rR _ (g5 _ f4)
    have z5 := rR _ (g5 _ f5)
    have z7 := rR _ (g5 _ f7)
    have zM := rR _ (g5 _ fM)
    have zdM := rR _ (g5 _ fdM)
    have zm := rR _ (g5 _ fm)
    have zdm := rR _ (g5 _ fdm)
    have zo := rR _ (g5 _ fo)
    have zdo := rR _ (g5 _ fdo)
    have zmp := rR _ (g5 _ fmp)
    have zpl := rR _ (g5 _ fpl)
    have zra := rR _ (g5 _ fra)
    clear N10 hRI
    obtain ⟨tp, hpi⟩ := ints_get hpv (places_get hin)
    have hpi' : pv[((0 : Int) + (i : Int)).toNat]? = some (.int (pAt n i) tp) := by rw [Int.zero_add, Int.toNat_natCast]; exact hpi
    have hpl9 : pv.length ≤ 100000 := by
      rw [hpv.length]
      unfold placesL
      rw [List.length_map, List.length_range]
      omega
    have hp0 : 272 ≤ pAt n i ∧ pAt n i ≤ 432 := by unfold pAt; omega
    obtain ⟨r, hr⟩ : ∃ r, rl[i]? = some r := ⟨_, List.getElem?_eq_getElem (by omega)⟩
    have hrb := hr9 r (List.mem_of_getElem? hr)
    obtain ⟨tr, hri⟩ := ints_get hrv hr
    have hri' : rv9[((0 : Int) + (i : Int)).toNat]? = some (.int r tr) := by rw [Int.zero_add, Int.toNat_natCast]; exact hri
    have hrl9 : rv9.length ≤ 100000 := by rw [hrv.length]; omega
    obtain ⟨l9, hl9⟩ : ∃ l, ml[(r - b).toNat]? = some l := ⟨_, List.getElem?_eq_getElem (by omega)⟩
    obtain ⟨x9, vs9, k9, hx1, hx2, hx3, hx4, hx5⟩ := hmp3 _ _ hl9
    rw [Int.toNat_of_nonneg (by omega)] at hx1
    have zx := rR _ (g5 _ hx2)
    have hnx := nx_lt hbk hin
    obtain ⟨r', hr'⟩ : ∃ r, rl[nx n bk i]? = some r := ⟨_, List.getElem?_eq_getElem (by omega)⟩
    have hrb' := hr9 r' (List.mem_of_getElem? hr')
    obtain ⟨tr', hri2⟩ := ints_get hrv hr'
    obtain ⟨tp', hpi2⟩ := ints_get hpv (places_get hnx)
    have hwl := g7.length
    have hwl' := g8.h1
    with_unfolding_all refine' For_invVF F10 ?q1 ?q2 ?_
    (case q1 => exact rfl)
    (case q2 => exact rfl)
    k_whole
    k_steps
    refine Held.of ?_
    (rename Fr _ _ _ _ => F12); (rename News _ _ _ _ => N12); (rename IsRange _ _ _ _ _ _ _ _ => R12)
    refine iter_ranO (n := 4) (JI w src lst wd RI n i c' f' _) rfl R12 (by decide) (by rfl) F12 (News.sub (news' := (src, o1) :: (lst, o2) :: (wd, ow') :: RI) N12 fun p hp => .tail _ hp) ⟨o1, o2, ow', c', f', _, rfl, g1, g2, Nat.le_refl _, Below9.refl, map_self _ _⟩ ?yt ?yd
    case yt =>
      clear F12 N12 R12
      rintro I2 hI2 j m2 l2 t2 h12 tk12 hj ⟨o3, o4, ow2, c2, f2, u9, rfl, g1', g2', g3', g4', rfl⟩ ho2 F12 N12
      replace F12 : Fr h₀ L h12 _ := F12
      replace N12 : News h₀ L h12 _ := N12
      simp only [List.forall_mem_cons] at ho2
      obtain ⟨hqS, hqL, hqW, hqR⟩ := ho2
      k_steps
      refine Held.of (wpAny_call (take_m (rest := (I2, itR (0 + ((j + 1 : Nat) : Int)) (((4 : Nat) : Int) - ((j + 1 : Nat) : Int))) :: (wd, ow2) :: RI) (hCx rfl rfl F12) (Nat.lt_of_lt_of_le hdp (by decide)) (Nat.le_trans hu (by decide)) N12 (.tail _ (.head _)) (.tail _ (.tail _ (.head _))) g1' ?hr ?hf (by decide) (by decide) hls ?_))
      case hr =>
        simp only [List.forall_mem_cons]
        exact ⟨.head _, .tail _ (.tail _ (.tail _ (.head _))), fun p hp => .tail _ (.tail _ (.tail _ (.tail _ hp)))⟩
      case hf =>
        simp only [List.forall_mem_cons]
        exact ⟨⟨hqS.symm, hqL.symm⟩, ⟨A9.ne 13 8 rfl rfl rfl, A9.ne 13 7 rfl rfl rfl⟩, fun p hp => ⟨(offI p hp).1, (offI p hp).2.1⟩⟩
      k_whole
      intro h13 tk13 o5 o6 x13 t13 F13 N13 g13 y0 y1
      try dsimp only
      try k_sweep
      k_steps
      refine Held.of (wpAny_call (put_word_m (ow := ow2) (rest := (src, o5) :: (lst, o6) :: (I2, itR (0 + ((j + 1 : Nat) : Int)) (((4 : Nat) : Int) - ((j + 1 : Nat) : Int))) :: RI) (hCx rfl rfl F13) (Nat.lt_of_lt_of_le hdp (by decide)) N13 (.tail _ (.tail _ (.tail _ (.head _)))) ?hr (.tail _ (.tail _ (.tail _ zm))) (.tail _ (.tail _ (.tail _ zdm))) hmem ?hf g2' hwd (by omega) (by omega) (by omega) ?_))
      case hr =>
        simp only [List.forall_mem_cons]
        exact ⟨.head _, .tail _ (.head _), .tail _ (.tail _ (.head _)), fun p hp => .tail _ (.tail _ (.tail _ (.tail _ hp)))⟩
      case hf =>
        simp only [List.forall_mem_cons]
        exact ⟨A9.ne 8 13 rfl rfl rfl, A9.ne 7 13 rfl rfl rfl, hqW.symm, fun p hp => (offI p hp).2.2⟩
      k_whole
      intro h14 tk14 ow3 F14 N14 W14
      try dsimp only
      k_steps
      have hB := g4'.put (o := 4 * (0 + (j : Int)) - 24) (v := x13.fmod 4294967296) (by omega)
      rw [← Int.add_sub_assoc] at hB
      refine UnrEnd.intro F14 N14 ((src, o5) :: (lst, o6) :: (wd, ow3) :: RI) ?hs ?hq ⟨o5, o6, ow3, c2 + 1, _, _, rfl, g13, W14, by omega, hB, map_again⟩
      case hs =>
        simp only [List.forall_mem_cons]
        exact ⟨.tail _ (.tail _ (.tail _ (.head _))), .tail _ (.head _), .tail _ (.tail _ (.head _)), .head _, fun p hp => .tail _ (.tail _ (.tail _ (.tail _ hp)))⟩
      case hq =>
        simp only [List.forall_mem_cons]
        exact ⟨hqS, hqL, hqW, hqR⟩
    case yd =>
      clear F12 N12 R12
      rintro m2 l2 h12 tk12 ⟨o3, o4, ow2, c2, f2, u9, rfl, g1', g2', g3', g4', rfl⟩ F12 N12
      replace F12 : Fr h₀ L h12 _ := F12
      replace N12 : News h₀ L h12 _ := N12
      k_steps
      refine Held.of ?_
      k_here
      k_dflt (refine PyProof.Rows.LCg.ListComp_U (F₀ := by k_asm) (by with_unfolding_all rfl) (by decide) (by rfl) (by decide) (by rfl) ?_)
      k_steps
      refine Held.of ?_
      (rename News _ _ _ _ => N13); (rename Fr _ _ _ _ => F13)
      obtain ⟨RR, hRR⟩ : ∃ RR, RR = (src, o3) :: (lst, o4) :: (wd, ow2) :: RI := ⟨_, rfl⟩
      rw [← hRR] at N13
      have tR : ∀ p ∈ RI, p ∈ RR := fun p hp => by rw [hRR]; exact .tail _ (.tail _ (.tail _ hp))
      have tW : (wd, ow2) ∈ RR := by rw [hRR]; exact .tail _ (.tail _ (.head _))
      have x2 := tR _ z2
      have x6 := tR _ r6
      have x7 := tR _ z7
      have xM := tR _ zM
      have xdM := tR _ zdM
      have xm := tR _ zm
      have xdm := tR _ zdm
      have xpl := tR _ zpl
      refine PyProof.Rows.LCg.CompSrc.ledger (by rfl) F13 N13 (tR _ zx) (by rw [sizeLine_eq]; simp; omega) ?_
      intro g
      refine comp_J (JE (fun o => f2 ((pAt n i + o).fdiv 4)) l9 RR) ?xt ?xd _ 0 [] _ (Nat.zero_add _) ⟨rfl, .nil⟩
      case xt =>
        clear F13 N13
        rintro j ys nw9 v I3 oI C oC D m3 h14 tk14 E' hj ⟨rfl, q2⟩ hP hC hx F14 N14 off ne
        have hP' : vs9[j]? = some v := by simpa using hP
        obtain ⟨o, t, rfl, ho⟩ := ints_at hx3 hP'
        have hok := hx5 o (List.mem_of_getElem? ho)
        unfold OffOk at hok
        k_steps
        refine Held.of (wpAny_call (word_m (hCx rfl rfl (by k_asm)) (Nat.lt_of_lt_of_le hdp (by decide)) (by k_asm) (.tail _ (.tail _ (.tail _ xm))) (.tail _ (.tail _ (.tail _ xdm))) hmem (.tail _ (.tail _ (.tail _ tW))) g2' hwd (by omega) (by omega) ?_))
        k_whole
        intro h15 tk15 tv F15 N15
        try dsimp only
        try k_sweep
        k_steps
        refine Held.of (compEnd_of F15 N15 (.head _) (.tail _ (.head _)) (.tail _ (.tail _ (.head _))) (fun p hp => .tail _ (.tail _ (.tail _ hp))) off (.inr ⟨_, tR _ zx, rfl, _, rfl⟩) ⟨rfl, ?hq⟩)
        case hq =>
          rw [List.take_add_one, ho, List.map_append]
          exact IntsAre.append q2 (.cons _ _ .nil)
      case xd =>
        clear F13 N13
        rintro ys nw9 ⟨rfl, q2⟩
        unfold PyProof.Rows.LCg.FinE
        intro D h14 tk14 F14 N14 oD
        have oD' := off1_mem oD
        have q2' : IntsAre ys (l9.map fun o => f2 ((pAt n i + o).fdiv 4)) := by
          rw [List.take_of_length_le (by simp; rw [hx3.length]; exact Nat.le_refl _)] at q2
          exact q2
        have hys : ys.length ≤ 4 := by rw [q2'.length, List.length_map, ← hx3.length]; exact hx4
        k_steps
        refine Held.of ?_
        have eW : ∀ p ∈ RI, p.1 ≠ wa → p ∈ keepA RI [wa] := fun p hp h => mem_keepA.mpr ⟨hp, by simp only [List.forall_mem_cons]; exact ⟨h, fun _ h => nomatch h⟩⟩
        have oW : ∀ p ∈ keepA RI [wa], p ∈ RI ∧ p.1 ≠ wa := fun p hp => by
          have := (mem_keepA.mp hp)
          simp only [List.forall_mem_cons] at this
          exact ⟨this.1, this.2.1⟩
        have y2 := eW _ z2 (A9.ne 1 28 rfl rfl rfl)
        have y5 := eW _ z5 (A9.ne 4 28 rfl rfl rfl)
        have y6 := eW _ r6 (A9.ne 5 28 rfl rfl rfl)
        have y7 := eW _ z7 (A9.ne 6 28 rfl rfl rfl)
        have yM := eW _ zM (A9.ne 10 28 rfl rfl rfl)
        have ydM := eW _ zdM (A9.ne 9 28 rfl rfl rfl)
        have ym := eW _ zm (A9.ne 12 28 rfl rfl rfl)
        have ydm := eW _ zdm (A9.ne 11 28 rfl rfl rfl)
        have ypl := eW _ zpl (A9.ne 26 28 rfl rfl rfl)
        have yra := eW _ zra (A9.ne 27 28 rfl rfl rfl)
        have yI := eW _ rI hoA.symm
        have yR : ∀ p ∈ rest, p ∈ keepA RI [wa] := fun p hp => eW _ (rR _ hp) (g6 p hp).2.2.2.1
        generalize keepA RI [wa] = RW at eW oW y2 y5 y6 y7 yM ydM ym ydm ypl yra yI yR
        have N15 : News h₀ L h14 ((wa, lisOf wv nw) :: (D, PyProof.Rows.LCg.lst ys) :: (src, o3) :: (lst, o4) :: (wd, ow2) :: RW) := news_cons N14 (.tail _ (tR _ rA)) (News.sub N14 (by
          rw [hRR]
          simp only [List.forall_mem_cons]
          exact ⟨.head _, .tail _ (.head _), .tail _ (.tail _ (.head _)), .tail _ (.tail _ (.tail _ (.head _))), fun p hp => .tail _ (.tail _ (.tail _ (.tail _ (oW p hp).1)))⟩))
        have dS : @Ne Nat D src := (oD' (src, o3) (by rw [hRR]; exact .head _)).symm
        have dL : @Ne Nat D lst := (oD' (lst, o4) (by rw [hRR]; exact .tail _ (.head _))).symm
        have dW : @Ne Nat D wd := (oD' _ tW).symm
        have dA : @Ne Nat D wa := (oD' _ (tR _ rA)).symm
        have d6' : @Ne Nat D (L + 1 + 1 + 1 + 1 + 1 + 1) := (oD' _ (tR _ r6)).symm
        have dI : @Ne Nat D I := (oD' _ (tR _ rI)).symm
        have offW : ∀ p ∈ (wa, lisOf (wv ++ [Value.ref D]) (nw + 1)) :: (D, PyProof.Rows.LCg.lst ys) :: (src, o3) :: (lst, o4) :: RW, p.1 ≠ wd := by
          simp only [List.forall_mem_cons]
          exact ⟨A9.ne 28 13 rfl rfl rfl, dW, A9.ne 8 13 rfl rfl rfl, A9.ne 7 13 rfl rfl rfl, fun p hp => (offI p (oW p hp).1).2.2⟩
        have dled : ∀ p ∈ led, p.1 ≠ D := fun p hp => by
          by_cases h1 : p.1 = src
          · rw [h1]; exact dS.symm
          by_cases h2 : p.1 = lst
          · rw [h2]; exact dL.symm
          by_cases h3 : p.1 = wd
          · rw [h3]; exact dW.symm
          by_cases h4 : p.1 = wa
          · rw [h4]; exact dA.symm
          by_cases h5 : p.1 = L + 1 + 1 + 1 + 1 + 1 + 1
          · rw [h5]; exact d6'.symm
          exact oD' _ (tR _ (rR _ (g5 _ (e1 p hp h1 h2 h3 h4 h5))))
        refine app_lis F14 N15 (Upd.head ?hu) (by omega) ?_
        case hu =>
          simp only [List.forall_mem_cons]
          exact ⟨dA, A9.ne 8 28 rfl rfl rfl, A9.ne 7 28 rfl rfl rfl, A9.ne 13 28 rfl rfl rfl, fun p hp => (oW p hp).2⟩
        intro h16 F16 N16
        try dsimp only
        have hsub9 : ∀ p ∈ rest, p ∈ keepA ((D, PyProof.Rows.LCg.lst ys) :: rest) [src, lst, wd, wa, L + 1 + 1 + 1 + 1 + 1 + 1, I] := fun p hp => mem_keepA.mpr ⟨.tail _ hp, by
          simp only [List.forall_mem_cons]
          exact ⟨(g6 p hp).1, (g6 p hp).2.1, (g6 p hp).2.2.1, (g6 p hp).2.2.2.1, (g6 p hp).2.2.2.2, hoR p hp, fun _ h => nomatch h⟩⟩
        have hD9 : (D, PyProof.Rows.LCg.lst ys) ∈ keepA ((D, PyProof.Rows.LCg.lst ys) :: rest) [src, lst, wd, wa, L + 1 + 1 + 1 + 1 + 1 + 1, I] := mem_keepA.mpr ⟨.head _, by
          simp only [List.forall_mem_cons]
          exact ⟨dS, dL, dW, dA, d6', dI, fun _ h => nomatch h⟩⟩
        have off9 : ∀ p ∈ keepA ((D, PyProof.Rows.LCg.lst ys) :: rest) [src, lst, wd, wa, L + 1 + 1 + 1 + 1 + 1 + 1, I], p.1 ≠ src ∧ p.1 ≠ lst ∧ p.1 ≠ wd ∧ p.1 ≠ wa ∧ p.1 ≠ L + 1 + 1 + 1 + 1 + 1 + 1 := fun p hp => by
          have := (mem_keepA.mp hp).2
          simp only [List.forall_mem_cons] at this
          exact ⟨this.1, this.2.1, this.2.2.1, this.2.2.2.1, this.2.2.2.2.1⟩
        have hq9 : ∀ {ow6 : Obj}, ∀ p ∈ (src, o3) :: (lst, o4) :: (wd, ow6) :: (wa, lisOf (wv ++ [Value.ref D]) (nw + 1)) :: (L + 1 + 1 + 1 + 1 + 1 + 1, kA) :: keepA ((D, PyProof.Rows.LCg.lst ys) :: rest) [src, lst, wd, wa, L + 1 + 1 + 1 + 1 + 1 + 1, I], p.1 ≠ I := by
          simp only [List.forall_mem_cons]
          exact ⟨hoS, hoL, hoW, hoA, ho6, fun p hp => by
            have := (mem_keepA.mp hp).2
            simp only [List.forall_mem_cons] at this
            exact this.2.2.2.2.2.1⟩
        by_cases hlt : i + 1 < n
        · have hnx9 : nx n bk i = i + 1 := if_pos hlt
          have hf1 : rv9[((0 : Int) + (i : Int) + 1).toNat]? = some (.int r' tr') := by
            rw [show ((0 : Int) + (i : Int) + 1).toNat = i + 1 by omega]
            exact (congrArg (fun k => rv9[k]?) hnx9).symm.trans hri2
          have hf2 : pv[((0 : Int) + (i : Int) + 1).toNat]? = some (.int (pAt n (nx n bk i)) tp') := by
            rw [show ((0 : Int) + (i : Int) + 1).toNat = i + 1 by omega]
            exact (congrArg (fun k => pv[k]?) hnx9).symm.trans hpi2
          k_steps
          refine Held.of (wpAny_call (put_word_m (ow := ow2) (rest := (wa, lisOf (wv ++ [Value.ref D]) (nw + 1)) :: (D, PyProof.Rows.LCg.lst ys) :: (src, o3) :: (lst, o4) :: RW) (hCx rfl rfl (by k_asm)) (Nat.lt_of_lt_of_le hdp (by decide)) (by k_asm) (.tail _ (.tail _ (.tail _ (.tail _ (.head _))))) ?hr (.tail _ (.tail _ (.tail _ (.tail _ ym)))) (.tail _ (.tail _ (.tail _ (.tail _ ydm)))) hmem offW g2' hwd (by omega) (by omega) (by omega) ?_))
          case hr =>
            simp only [List.forall_mem_cons]
            exact ⟨.head _, .tail _ (.head _), .tail _ (.tail _ (.head _)), .tail _ (.tail _ (.tail _ (.head _))), fun p hp => .tail _ (.tail _ (.tail _ (.tail _ (.tail _ hp))))⟩
          k_whole
          intro h17 tk17 ow5 F17 N17 W17
          try dsimp only
          try k_sweep
          k_steps
          refine Held.of (wpAny_call (put_word_m (ow := ow5) (rest := (wa, lisOf (wv ++ [Value.ref D]) (nw + 1)) :: (D, PyProof.Rows.LCg.lst ys) :: (src, o3) :: (lst, o4) :: RW) (hCx rfl rfl (by k_asm)) (Nat.lt_of_lt_of_le hdp (by decide)) (by k_asm) (.head _) (fun p hp => .tail _ hp) (.tail _ (.tail _ (.tail _ (.tail _ ym)))) (.tail _ (.tail _ (.tail _ (.tail _ ydm)))) hmem offW W17 hwd (by omega) (by omega) (by omega) ?_))
          k_whole
          intro h18 tk18 ow6 F18 N18 W18
          try dsimp only
          k_steps
          have hs9 : ∀ p ∈ (I, itR (0 + ((i + 1 : Nat) : Int)) ((n : Int) - ((i + 1 : Nat) : Int))) :: (src, o3) :: (lst, o4) :: (wd, ow6) :: (wa, lisOf (wv ++ [Value.ref D]) (nw + 1)) :: (L + 1 + 1 + 1 + 1 + 1 + 1, kA) :: keepA ((D, PyProof.Rows.LCg.lst ys) :: rest) [src, lst, wd, wa, L + 1 + 1 + 1 + 1 + 1 + 1, I], p ∈ (wd, ow6) :: (wa, lisOf (wv ++ [Value.ref D]) (nw + 1)) :: (D, PyProof.Rows.LCg.lst ys) :: (src, o3) :: (lst, o4) :: RW := by
            simp only [List.forall_mem_cons]
            exact ⟨.tail _ (.tail _ (.tail _ (.tail _ (.tail _ yI)))), .tail _ (.tail _ (.tail _ (.head _))), .tail _ (.tail _ (.tail _ (.tail _ (.head _)))), .head _, .tail _ (.head _), .tail _ (.tail _ (.tail _ (.tail _ (.tail _ y6)))), fun p hp => by
              rcases List.mem_cons.mp (mem_keepA.mp hp).1 with rfl | hp
              · exact .tail _ (.tail _ (.head _))
              · exact .tail _ (.tail _ (.tail _ (.tail _ (.tail _ (yR _ hp)))))⟩
          refine UnrEnd.intro F18 N18 ((src, o3) :: (lst, o4) :: (wd, ow6) :: (wa, lisOf (wv ++ [Value.ref D]) (nw + 1)) :: (L + 1 + 1 + 1 + 1 + 1 + 1, kA) :: keepA ((D, PyProof.Rows.LCg.lst ys) :: rest) [src, lst, wd, wa, L + 1 + 1 + 1 + 1 + 1 + 1, I]) hs9 hq9 ⟨o3, o4, ow6, kA, _, _, c2 + 1 + 1, _, wl ++ [l9.map fun o => f2 ((pAt n i + o).fdiv 4)], _, _, _, _, rfl, g1', W18, by omega, da, fun p hp => hsub9 p (g5 p hp), off9, (g7.mono hsub9).snoc hD9 q2' hys dled, g8.step hin hbk hn g4' hmo hr hl9 hr' ⟨by omega, by omega⟩, map_two (by decide)⟩
        · have hnx9 : nx n bk i = bk := if_neg hlt
          have hf1 : rv9[((bk : Int)).toNat]? = some (.int r' tr') := by
            rw [Int.toNat_natCast]
            exact (congrArg (fun k => rv9[k]?) hnx9).symm.trans hri2
          have hf2 : pv[((bk : Int)).toNat]? = some (.int (pAt n (nx n bk i)) tp') := by
            rw [Int.toNat_natCast]
            exact (congrArg (fun k => pv[k]?) hnx9).symm.trans hpi2
          k_steps
          refine Held.of (wpAny_call (put_word_m (ow := ow2) (rest := (wa, lisOf (wv ++ [Value.ref D]) (nw + 1)) :: (D, PyProof.Rows.LCg.lst ys) :: (src, o3) :: (lst, o4) :: RW) (hCx rfl rfl (by k_asm)) (Nat.lt_of_lt_of_le hdp (by decide)) (by k_asm) (.tail _ (.tail _ (.tail _ (.tail _ (.head _))))) ?hr (.tail _ (.tail _ (.tail _ (.tail _ ym)))) (.tail _ (.tail _ (.tail _ (.tail _ ydm)))) hmem offW g2' hwd (by omega) (by omega) (by omega) ?_))
          case hr =>
            simp only [List.forall_mem_cons]
            exact ⟨.head _, .tail _ (.head _), .tail _ (.tail _ (.head _)), .tail _ (.tail _ (.tail _ (.head _))), fun p hp => .tail _ (.tail _ (.tail _ (.tail _ (.tail _ hp))))⟩
          k_whole
          intro h17 tk17 ow5 F17 N17 W17
          try dsimp only
          try k_sweep
          k_steps
          refine Held.of (wpAny_call (put_word_m (ow := ow5) (rest := (wa, lisOf (wv ++ [Value.ref D]) (nw + 1)) :: (D, PyProof.Rows.LCg.lst ys) :: (src, o3) :: (lst, o4) :: RW) (hCx rfl rfl (by k_asm)) (Nat.lt_of_lt_of_le hdp (by decide)) (by k_asm) (.head _) (fun p hp => .tail _ hp) (.tail _ (.tail _ (.tail _ (.tail _ ym)))) (.tail _ (.tail _ (.tail _ (.tail _ ydm)))) hmem offW W17 hwd (by omega) (by omega) (by omega) ?_))
          k_whole
          intro h18 tk18 ow6 F18 N18 W18
          try dsimp only
          k_steps
          have hs9 : ∀ p ∈ (I, itR (0 + ((i + 1 : Nat) : Int)) ((n : Int) - ((i + 1 : Nat) : Int))) :: (src, o3) :: (lst, o4) :: (wd, ow6) :: (wa, lisOf (wv ++ [Value.ref D]) (nw + 1)) :: (L + 1 + 1 + 1 + 1 + 1 + 1, kA) :: keepA ((D, PyProof.Rows.LCg.lst ys) :: rest) [src, lst, wd, wa, L + 1 + 1 + 1 + 1 + 1 + 1, I], p ∈ (wd, ow6) :: (wa, lisOf (wv ++ [Value.ref D]) (nw + 1)) :: (D, PyProof.Rows.LCg.lst ys) :: (src, o3) :: (lst, o4) :: RW := by
            simp only [List.forall_mem_cons]
            exact ⟨.tail _ (.tail _ (.tail _ (.tail _ (.tail _ yI)))), .tail _ (.tail _ (.tail _ (.head _))), .tail _ (.tail _ (.tail _ (.tail _ (.head _)))), .head _, .tail _ (.head _), .tail _ (.tail _ (.tail _ (.tail _ (.tail _ y6)))), fun p hp => by
              rcases List.mem_cons.mp (mem_keepA.mp hp).1 with rfl | hp
              · exact .tail _ (.tail _ (.head _))
              · exact .tail _ (.tail _ (.tail _ (.tail _ (.tail _ (yR _ hp)))))⟩
          refine UnrEnd.intro F18 N18 ((src, o3) :: (lst, o4) :: (wd, ow6) :: (wa, lisOf (wv ++ [Value.ref D]) (nw + 1)) :: (L + 1 + 1 + 1 + 1 + 1 + 1, kA) :: keepA ((D, PyProof.Rows.LCg.lst ys) :: rest) [src, lst, wd, wa, L + 1 + 1 + 1 + 1 + 1 + 1, I]) hs9 hq9 ⟨o3, o4, ow6, kA, _, _, c2 + 1 + 1, _, wl ++ [l9.map fun o => f2 ((pAt n i + o).fdiv 4)], _, _, _, _, rfl, g1', W18, by omega, da, fun p hp => hsub9 p (g5 p hp), off9, (g7.mono hsub9).snoc hD9 q2' hys dled, g8.step hin hbk hn g4' hmo hr hl9 hr' ⟨by omega, by omega⟩, map_two (by decide)⟩
end
end
section
open PySem PySem.W PyProof.Rows
theorem rst_33 {M : Model} {A : Around} {Q : Unit → Shared → Prop} {E : Value → Shared → Prop} {s : Shared} (h : Q () s) : wpAny M A (Sem.pure ()) Q E s := by
  w_top off
  first | walk1 | exact wpAny_pure h
end
section
open PySem PySem.W PyProof.Rows
theorem rst_34 {M : Model} {A : Around} {Q : Unit → Shared → Prop} {E : Value → Shared → Prop} {s : Shared} (h : Q () s) : wpAny M A (Sem.pure ()) Q E s := by
  w_top off
  first | walk1 | exact wpAny_pure h
end
section
open PySem PySem.W PySem.Calls PyProof.Rows PyProof.V
theorem fill_L5 : MineH.K = MineH.K ∧ PySem.Challenge.rw_pb0376_02 = PySem.Challenge.rw_pb0376_02 := by k_fill; exact ⟨rfl, rfl⟩
local macro_rules | `(tactic| walk_at "compareOp Lt int int") => `(tactic| (k_here; first | refine lt_true9 (by omega) ?_ | refine lt_false9 (by omega) ?_))
local macro_rules | `(tactic| walk_at "inplaceOp Add ref ref") => `(tactic| refine held ?_)
inductive JF (da : Addr) (L : Addr) (R0 : List (Addr × Obj)) (n bk : Nat) (wl : List (List Int)) (m₀ : Str → Option Value) (i : Nat) (m : Str → Option Value) (l : List (Addr × Obj)) : Prop where
  | mk (dv : List Value) (nd : Nat) (ka : Obj) (tq : Tok) (u : Option Value) (e0 : l = (da, lisOf dv nd) :: (L + 1 + 1 + 1 + 1 + 1 + 1, ka) :: R0) (g1 : IntsAre dv (dueL n bk wl i)) (g2 : ka.data = .cell (some (.int ((ring n bk i : Nat) : Int) tq))) (g3 : dv.length ≤ 4 * i)
    (e9 : m = fun y => if y = Str.ofString "_" then u else if y = Str.ofString "due" then some (.ref da) else m₀ y) : JF da L R0 n bk wl m₀ i m l
section
variable {w : World} {A₀ : Around} {base h₀ : Heap} {L fa : Addr} {mg mb : Str → Option Value} {mean : ExcName → Option Value} {s : Shared} {Q : Flow → Shared → Prop} {R : Result → Shared → Prop}
  {d u : Nat} {gs : Option (List Code)} {oc : Value} {od : Option Addr} {name qual : Str} {params : Arguments} {body : List Stmt} {scope : Scope} {dV kV doc pm cdv ct cd : Value} {an : Option Addr} {osl : Array (Option Value)}
  {led : List (Addr × Obj)} {kM kC ka0 om omem so : Obj} {M dM dm mem wd wa da hp cpu ld out gv ra : Addr} {wv : List Value} {nW nD n bk : Nat} {wl : List (List Int)} {tc tk' ta : Tok} {u1 u2 : Option Value} {m9 : Str → Option Value} {st : Stmt}
theorem law_e (hlk : List.lookup 430 (MineH.K w.params) = some ⟨oc, od, .func (fnOf name qual params body scope dV kV doc pm an cdv ct), osl⟩) (hst : body[17]? = some st)
  (B : Below A₀ base [] h₀) (F : Fr h₀ L s.heap (fun y => if y = Str.ofString "due" then some (.ref da) else if y = Str.ofString "spot" then u1 else if y = Str.ofString "following" then u2 else if y = Str.ofString "words" then some (.ref wa) else if y = Str.ofString "back" then some (.int (bk : Int) tk') else if y = Str.ofString "rows" then some (.ref ra) else m9 y)) (N : News h₀ L s.heap led) (X : (MineH.K w.params).In h₀) (T : Top MineH.qv LB mean mg mb h₀) (hdp : d < 400) (hu : u ≤ 800)
  (a2 : (L + 1 + 1, kM) ∈ led) (d2 : kM.data = .cell (some (.ref M))) (a5 : (L + 1 + 1 + 1 + 1 + 1, kC) ∈ led) (d5 : kC.data = .cell (some (.int (n : Int) tc))) (a6 : (L + 1 + 1 + 1 + 1 + 1 + 1, ka0) ∈ led) (d6 : ka0.data = .cell (some (.int 0 ta)))
  (b1 : (M, instObj 393 dM) ∈ led) (b2 : (dM, om) ∈ led) (hom : MachB om mem hp cpu ld out gv 100) (b3 : (mem, instObj 301 dm) ∈ led) (b4 : (dm, omem) ∈ led) (hmem : MemB omem 464 wd) (b5 : (wa, lisOf wv nW) ∈ led) (b6 : (da, lisOf [] nD) ∈ led)
  (hwl : WordsAre [(da, so), (L + 1 + 1 + 1 + 1 + 1 + 1, so)] led wv wl) (hw9 : wl.length = n) (hn0 : 0 < n) (hn : n ≤ 6) (hbk : bk < n)
  (n1 : @Ne Nat da (L + 1 + 1 + 1 + 1 + 1 + 1)) (n2 : ∀ a ∈ [L + 1 + 1, L + 1 + 1 + 1 + 1 + 1, M, dM, mem, dm, wa], a ≠ da ∧ a ≠ L + 1 + 1 + 1 + 1 + 1 + 1)
  (k : ∀ h' tk led' dv nd ka' tq u9, Fr h₀ L h' (fun y => if y = Str.ofString "_" then u9 else if y = Str.ofString "due" then some (.ref da) else if y = Str.ofString "spot" then u1 else if y = Str.ofString "following" then u2 else if y = Str.ofString "words" then some (.ref wa) else if y = Str.ofString "back" then some (.int (bk : Int) tk') else if y = Str.ofString "rows" then some (.ref ra) else m9 y) → News h₀ L h' led' →
    (∀ p ∈ led, p.1 ≠ da → p.1 ≠ L + 1 + 1 + 1 + 1 + 1 + 1 → p ∈ led') → (da, lisOf dv nd) ∈ led' → IntsAre dv (dueL n bk wl 34) → dv.length ≤ 200 → (L + 1 + 1 + 1 + 1 + 1 + 1, ka') ∈ led' → ka'.data = .cell (some (.int ((ring n bk 34 : Nat) : Int) tq)) → Q .next { s with heap := h', toks := tk }) :
  wpAny (model P2 w) (mkA none d (envOfC qual scope L fa cd) [] gs u) (exec st (envOfC qual scope L fa cd)) Q
    (fun e s' => wpAny (model P2 w) (mkA none d (envOfC qual scope L fa cd) [] gs u) (leaving (envOfC qual scope L fa cd) e) (fun _ s'' => R (.error e) s'') (fun e' s'' => R (.error e') s'') s') s := by
  rw [show List.lookup 430 (MineH.K w.params) = some _ from (by k_is)] at hlk
  cases hlk
  cases hst
  (try dsimp only)
  (try k_fold)
  have hCx : ∀ {m' : Str → Option Value} {h' : Heap} {env : Env}, env.frame = some L → env.scope.kind = .function → Fr h₀ L h' m' → Cb w A₀ base h₀ [] env L m' mg mb mean h' := fun e1 e2 F => ⟨B, F, X, T, e1, e2⟩
  simp only [List.forall_mem_cons] at n2
  obtain ⟨⟨p2, q2⟩, ⟨p5, q5⟩, ⟨pM, qM⟩, ⟨pd, qd⟩, ⟨pm', qm⟩, ⟨pdm, qdm⟩, ⟨pw, qw⟩, _⟩ := n2
  k_steps
  refine Held.of (wpAny_call (most_B (hCx rfl rfl (by k_asm)) (Nat.lt_of_lt_of_le hdp (by decide)) (by k_asm) b1 b2 hom b3 b4 hmem ?_))
  k_whole
  intro h1 tk1 t1 F1 N1
  try dsimp only
  try k_sweep
  k_steps
  refine Held.of ?_
  (rename Fr _ _ _ _ => F2); (rename News _ _ _ _ => N2); (rename IsRange _ _ _ _ _ _ _ _ => R2)
  refine grabL N2 fun l1 hl1 => ?_
  rw [← hl1] at N2
  have e0 : ∀ p ∈ led, p ∈ l1 := fun p hp => by rw [hl1]; exact .tail _ hp
  clear hl1
  have e1 : ∀ p ∈ led, p.1 ≠ da → p.1 ≠ L + 1 + 1 + 1 + 1 + 1 + 1 → p ∈ keepA l1 [da, L + 1 + 1 + 1 + 1 + 1 + 1] := fun p hp q1 q2 => mem_keepA.mpr ⟨e0 p hp, by simp only [List.forall_mem_cons]; exact ⟨q1, q2, fun _ h => nomatch h⟩⟩
  have off0 : ∀ p ∈ keepA l1 [da, L + 1 + 1 + 1 + 1 + 1 + 1], p.1 ≠ da ∧ p.1 ≠ L + 1 + 1 + 1 + 1 + 1 + 1 := fun p hp => by
    have := (mem_keepA.mp hp).2
    simp only [List.forall_mem_cons] at this
    exact ⟨this.1, this.2.1⟩
  have f2 := e1 _ a2 p2 q2
  have f5 := e1 _ a5 p5 q5
  have fw := e1 _ b5 pw qw
  have N3 : News h₀ L _ ((da, lisOf [] nD) :: (L + 1 + 1 + 1 + 1 + 1 + 1, ka0) :: keepA l1 [da, L + 1 + 1 + 1 + 1 + 1 + 1]) := news_cons N2 (e0 _ b6) (news_cons N2 (e0 _ a6) (News.sub N2 fun p hp => (mem_keepA.mp hp).1))
  generalize keepA l1 [da, L + 1 + 1 + 1 + 1 + 1 + 1] = R0 at e1 off0 f2 f5 fw N3
  clear N2 e0
  refine iter_ranO (n := 34) (JF da L R0 n bk wl (fun y => if y = Str.ofString "spot" then u1 else if y = Str.ofString "following" then u2 else if y = Str.ofString "words" then some (.ref wa) else if y = Str.ofString "back" then some (.int (bk : Int) tk') else if y = Str.ofString "rows" then some (.ref ra) else m9 y)) rfl R2 (by decide) (by rfl) F2 N3
    ⟨[], nD, ka0, ta, _, rfl, .nil, d6, Nat.le_refl _, map_self _ _⟩ ?zt ?zd
  case zd =>
    clear F2 N3
    rintro m l h9 tk9 ⟨dv, nd, ka, tq, u9, rfl, g1, g2, g3, rfl⟩ F9 N9
    exact k _ _ _ dv nd ka tq u9 F9 N9 (fun p hp q1 q2 => .tail _ (.tail _ (e1 p hp q1 q2))) (.head _) g1 (by omega) (.tail _ (.head _)) g2
  case zt =>
    clear F2 N3 R2
    rintro I hI i m l ti h9 tk9 hin ⟨dv, nd, ka, tq, u9, rfl, g1, g2, g3, rfl⟩ ho F9 N9
    replace F9 : Fr h₀ L h9 _ := F9
    replace N9 : News h₀ L h9 _ := N9
    simp only [List.forall_mem_cons] at ho
    obtain ⟨hoD, ho6, hoR⟩ := ho
    have hrg := ring_lt hn0 hbk i
    obtain ⟨lw, hlw⟩ : ∃ l, wl[ring n bk i]? = some l := ⟨_, List.getElem?_eq_getElem (by omega)⟩
    obtain ⟨x, ws, kx, hx1, hx2, hx3, hx4, hx5⟩ := hwl.at hlw
    simp only [List.forall_mem_cons] at hx5
    have zx := e1 _ hx2 hx5.1.symm hx5.2.1.symm
    have hv : wv[((ring n bk i : Nat) : Int).toNat]? = some (.ref x) := by rw [Int.toNat_natCast]; exact hx1
    have hwv : wv.length ≤ 100000 := by rw [hwl.length]; omega
    k_steps
    refine Held.of ?_
    (rename Fr _ _ _ _ => F10); (rename News _ _ _ _ => N10)
    refine iadd_lis F10 N10 (UpdF.tail hoD.symm (UpdF.head ?hu)) (.tail _ (.tail _ (.tail _ zx))) (by omega) ?_
    case hu =>
      simp only [List.forall_mem_cons]
      exact ⟨n1.symm, fun p hp => (off0 p hp).1⟩
    intro h11 n11 F11 N11
    try dsimp only
    try k_sweep
    have n6I : @Ne Nat I (L + 1 + 1 + 1 + 1 + 1 + 1) := ho6.symm
    have off6 : ∀ p ∈ R0, p.1 ≠ L + 1 + 1 + 1 + 1 + 1 + 1 := fun p hp => (off0 p hp).2
    have hdue : dueL n bk wl (i + 1) = dueL n bk wl i ++ lw := by
      show dueL n bk wl i ++ wl.getD (ring n bk i) [] = _
      rw [List.getD_eq_getElem?_getD, hlw]
      rfl
    by_cases hlt : ring n bk i + 1 < n
    · have hnx9 : ring n bk (i + 1) = ring n bk i + 1 := if_pos hlt
      k_steps
      (rename News _ _ _ _ => kN); (rename Fr _ _ _ _ => kF); (rename (_ : Obj).data = Data.cell (some (Value.int _ _)) => kD)
      refine UnrEnd.intro kF kN ((da, lisOf (dv ++ ws) n11) :: (L + 1 + 1 + 1 + 1 + 1 + 1, _) :: R0) (fun p hp => hp) ?hq ⟨dv ++ ws, n11, _, _, _, rfl, by rw [hdue]; exact IntsAre.append g1 hx3, by rw [hnx9]; exact kD, by rw [List.length_append]; omega, map_two (by decide)⟩
      case hq =>
        simp only [List.forall_mem_cons]
        exact ⟨hoD, ho6, hoR⟩
    · have hnx9 : ring n bk (i + 1) = bk := if_neg hlt
      k_steps
      (rename News _ _ _ _ => kN); (rename Fr _ _ _ _ => kF); (rename (_ : Obj).data = Data.cell (some (Value.int _ _)) => kD)
      refine UnrEnd.intro kF kN ((da, lisOf (dv ++ ws) n11) :: (L + 1 + 1 + 1 + 1 + 1 + 1, _) :: R0) (fun p hp => hp) ?hq ⟨dv ++ ws, n11, _, _, _, rfl, by rw [hdue]; exact IntsAre.append g1 hx3, by rw [hnx9]; exact kD, by rw [List.length_append]; omega, map_two (by decide)⟩
      case hq =>
        simp only [List.forall_mem_cons]
        exact ⟨hoD, ho6, hoR⟩
end
end
section
open PySem PySem.W PyProof.Rows
theorem rst_35 {M : Model} {A : Around} {Q : Unit → Shared → Prop} {E : Value → Shared → Prop} {s : Shared} (h : Q () s) : wpAny M A (Sem.pure ()) Q E s := by
  w_top off
  first | walk1 | exact wpAny_pure h
end
section
open PySem PySem.W PyProof.Rows
theorem rst_36 {M : Model} {A : Around} {Q : Unit → Shared → Prop} {E : Value → Shared → Prop} {s : Shared} (h : Q () s) : wpAny M A (Sem.pure ()) Q E s := by
  w_top off
  first | walk1 | exact wpAny_pure h
end
section
open PySem PySem.W PySem.Calls PyProof.Rows PyProof.V
theorem fill_L6 : MineH.K = MineH.K ∧ PySem.Challenge.rw_pb0376_02 = PySem.Challenge.rw_pb0376_02 := by k_fill; exact ⟨rfl, rfl⟩
section
variable {w : World} {A₀ : Around} {base h₀ : Heap} {L fa : Addr} {mg mb : Str → Option Value} {mean : ExcName → Option Value} {s : Shared} {Q : Flow → Shared → Prop} {R : Result → Shared → Prop}
  {d u : Nat} {gs : Option (List Code)} {oc : Value} {od : Option Addr} {name qual : Str} {params : Arguments} {body : List Stmt} {scope : Scope} {dV kV doc pm cdv ct cd : Value} {an : Option Addr} {osl : Array (Option Value)}
  {led : List (Addr × Obj)} {m₀ : Str → Option Value} {st : Stmt}
theorem law_5 {kM kO k4 om oo occ : Obj} {M dM mem hp cpu ld out gv dc rg rows ob dob rw mp : Addr} {rv xs : List Value} {nr nx9 : Nat} {p4 : Option Value} {pc : Int} (hlk : List.lookup 430 (MineH.K w.params) = some ⟨oc, od, .func (fnOf name qual params body scope dV kV doc pm an cdv ct), osl⟩) (hst : body[5]? = some st)
  (B : Below A₀ base [] h₀) (F : Fr h₀ L s.heap m₀) (N : News h₀ L s.heap led) (X : (MineH.K w.params).In h₀) (T : Top MineH.qv LB mean mg mb h₀) (hdp : d < 400) (hu : u ≤ 800)
  (a2 : (L + 1 + 1, kM) ∈ led) (d2 : kM.data = .cell (some (.ref M))) (b1 : (M, instObj 393 dM) ∈ led) (b2 : (dM, om) ∈ led) (hom : MachB om mem hp cpu ld out gv 100)
  (a3 : (L + 1 + 1 + 1, kO) ∈ led) (d3 : kO.data = .cell (some (.ref ob))) (o1 : (ob, instObj 414 dob) ∈ led) (o2 : (dob, oo) ∈ led) (hO : ObjB oo rw mp) (o3 : (rw, lisOf rv nr) ∈ led)
  (b3 : (cpu, instObj 245 dc) ∈ led) (b4 : (dc, occ) ∈ led) (hoc : CpuB occ mem rg pc rows) (b5 : (rows, lisOf xs nx9) ∈ led) (a4 : (L + 1 + 1 + 1 + 1, k4) ∈ led) (d4 : k4.data = .cell p4) (hr : rv.length ≤ 100) (hx : xs.length ≤ 100)
  (n1 : @LT.lt Nat _ (L + 1 + 1 + 1 + 1) dM) (n2 : @LT.lt Nat _ dM M) (n3 : @LT.lt Nat _ M dc) (n4 : @LT.lt Nat _ dc cpu) (n5 : @LT.lt Nat _ cpu rows) (n6 : @LT.lt Nat _ rows dob) (n7 : @LT.lt Nat _ dob ob) (n8 : @LT.lt Nat _ ob rw)
  (k : ∀ h' tk led' n' t k4', Fr h₀ L h' m₀ → News h₀ L h' led' → (∀ p ∈ led, p.1 ≠ rows → p.1 ≠ L + 1 + 1 + 1 + 1 → p ∈ led') → (rows, lisOf (xs ++ rv) n') ∈ led' → (L + 1 + 1 + 1 + 1, k4') ∈ led' → k4'.data = .cell (some (.int (xs.length : Int) t)) → Q .next { s with heap := h', toks := tk }) :
  wpAny (model P2 w) (mkA none d (envOfC qual scope L fa cd) [] gs u) (exec st (envOfC qual scope L fa cd)) Q
    (fun e s' => wpAny (model P2 w) (mkA none d (envOfC qual scope L fa cd) [] gs u) (leaving (envOfC qual scope L fa cd) e) (fun _ s'' => R (.error e) s'') (fun e' s'' => R (.error e') s'') s') s := by
  rw [show List.lookup 430 (MineH.K w.params) = some _ from (by k_is)] at hlk
  cases hlk
  cases hst
  (try dsimp only)
  (try k_fold)
  have hCx : ∀ {m' : Str → Option Value} {h' : Heap} {env : Env}, env.frame = some L → env.scope.kind = .function → Fr h₀ L h' m' → Cb w A₀ base h₀ [] env L m' mg mb mean h' := fun e1 e2 F => ⟨B, F, X, T, e1, e2⟩
  have e1 : ∀ p ∈ led, p.1 ≠ rows → p.1 ≠ L + 1 + 1 + 1 + 1 → p ∈ keepA led [rows, L + 1 + 1 + 1 + 1] := fun p hp q0 q1 => mem_keepA.mpr ⟨hp, by simp only [List.forall_mem_cons]; exact ⟨q0, q1, fun _ h => nomatch h⟩⟩
  have off0 : ∀ p ∈ keepA led [rows, L + 1 + 1 + 1 + 1], p.1 ≠ rows ∧ p.1 ≠ L + 1 + 1 + 1 + 1 := fun p hp => by
    have := (mem_keepA.mp hp).2
    simp only [List.forall_mem_cons] at this
    exact ⟨this.1, this.2.1⟩
  have N2 : News h₀ L _ ((rows, lisOf xs nx9) :: (L + 1 + 1 + 1 + 1, k4) :: keepA led [rows, L + 1 + 1 + 1 + 1]) := news_cons N b5 (news_cons N a4 (News.sub N fun p hp => (mem_keepA.mp hp).1))
  have f2 := e1 _ a2 (ne_L (by omega)) (ne_L (by omega))
  have f3 := e1 _ a3 (ne_L (by omega)) (ne_L (by omega))
  have f6 := e1 _ b1 (ne_L (by omega)) (ne_L (by omega))
  have f7 := e1 _ b2 (ne_L (by omega)) (ne_L (by omega))
  have f8 := e1 _ o1 (ne_L (by omega)) (ne_L (by omega))
  have f9 := e1 _ o2 (ne_L (by omega)) (ne_L (by omega))
  have f10 := e1 _ o3 (ne_L (by omega)) (ne_L (by omega))
  have f11 := e1 _ b3 (ne_L (by omega)) (ne_L (by omega))
  have f12 := e1 _ b4 (ne_L (by omega)) (ne_L (by omega))
  generalize keepA led [rows, L + 1 + 1 + 1 + 1] = R0 at e1 off0 N2 f2 f3 f6 f7 f8 f9 f10 f11 f12
  clear N
  have off4 : ∀ p ∈ R0, p.1 ≠ L + 1 + 1 + 1 + 1 := fun p hp => (off0 p hp).2
  have nr4 : @Ne Nat rows (L + 1 + 1 + 1 + 1) := ne_L (by omega)
  have n4r : @Ne Nat (L + 1 + 1 + 1 + 1) rows := ne_L (by omega)
  k_steps
  refine Held.of (wpAny_call (add_rows_ok (hCx rfl rfl (by k_asm)) (Nat.lt_of_lt_of_le hdp (by decide)) N2 ?hne (.tail _ f6) (.tail _ f7) hom (.tail _ f11) (.tail _ f12) hoc (.tail _ f10) (by omega) (by omega) ?_))
  case hne => simp only [List.forall_mem_cons]; exact ⟨n4r, fun p hp => (off0 p hp).1⟩
  k_whole
  intro h1 tk1 n' t1 F1 N1
  try dsimp only
  try k_sweep
  k_steps
  (rename News _ _ _ _ => kN); (rename Fr _ _ _ _ => kF); (rename (_ : Obj).data = Data.cell (some (Value.int (xs.length : Int) _)) => kD)
  exact k _ _ _ n' t1 _ kF kN (fun p hp q1 q2 => .tail _ (.tail _ (e1 p hp q1 q2))) (.head _) (.tail _ (.head _)) kD
theorem law_6 {kM kO kB om oo : Obj} {M dM mem hp cpu ld out gv ob dob rw mp : Addr} {rv : List Value} {nr nl9 : Nat} {b : Int} {tb : Tok} (hlk : List.lookup 430 (MineH.K w.params) = some ⟨oc, od, .func (fnOf name qual params body scope dV kV doc pm an cdv ct), osl⟩) (hst : body[6]? = some st)
  (B : Below A₀ base [] h₀) (F : Fr h₀ L s.heap m₀) (N : News h₀ L s.heap led) (X : (MineH.K w.params).In h₀) (T : Top MineH.qv LB mean mg mb h₀) (hdp : d < 400) (hu : u ≤ 800)
  (a2 : (L + 1 + 1, kM) ∈ led) (d2 : kM.data = .cell (some (.ref M))) (b1 : (M, instObj 393 dM) ∈ led) (b2 : (dM, om) ∈ led) (hom : MachB om mem hp cpu ld out gv 100)
  (a3 : (L + 1 + 1 + 1, kO) ∈ led) (d3 : kO.data = .cell (some (.ref ob))) (o1 : (ob, instObj 414 dob) ∈ led) (o2 : (dob, oo) ∈ led) (hO : ObjB oo rw mp) (o3 : (rw, lisOf rv nr) ∈ led)
  (b6 : (ld, lisOf [] nl9) ∈ led) (a4 : (L + 1 + 1 + 1 + 1, kB) ∈ led) (d4 : kB.data = .cell (some (.int b tb)))
  (n1 : @LT.lt Nat _ (L + 1 + 1 + 1 + 1) dM) (n2 : @LT.lt Nat _ dM M) (n3 : @LT.lt Nat _ M ld) (n4 : @LT.lt Nat _ ld dob) (n7 : @LT.lt Nat _ dob ob)
  (k : ∀ h' tk led' n' lo dlo ol om', Fr h₀ L h' m₀ → News h₀ L h' led' → (∀ p ∈ led, p.1 ≠ dM → p.1 ≠ ld → p ∈ led') → (ld, lisOf [.ref lo] n') ∈ led' → (dM, om') ∈ led' → MachB om' mem hp cpu ld out gv 100 → (lo, instObj 59 dlo) ∈ led' → (dlo, ol) ∈ led' → LoadB ol b ob → (∀ p ∈ led, p.1 < dlo) → @LT.lt Nat _ dlo lo → Q .next { s with heap := h', toks := tk }) :
  wpAny (model P2 w) (mkA none d (envOfC qual scope L fa cd) [] gs u) (exec st (envOfC qual scope L fa cd)) Q
    (fun e s' => wpAny (model P2 w) (mkA none d (envOfC qual scope L fa cd) [] gs u) (leaving (envOfC qual scope L fa cd) e) (fun _ s'' => R (.error e) s'') (fun e' s'' => R (.error e') s'') s') s := by
  rw [show List.lookup 430 (MineH.K w.params) = some _ from (by k_is)] at hlk
  cases hlk
  cases hst
  (try dsimp only)
  (try k_fold)
  have hCx : ∀ {m' : Str → Option Value} {h' : Heap} {env : Env}, env.frame = some L → env.scope.kind = .function → Fr h₀ L h' m' → Cb w A₀ base h₀ [] env L m' mg mb mean h' := fun e1 e2 F => ⟨B, F, X, T, e1, e2⟩
  have asc : ∀ p ∈ led, p.1 = dM ∨ p.1 = ld ∨ p ∈ keepA led [dM, ld] := fun p hp => by
    by_cases e1 : p.1 = dM
    · exact .inl e1
    by_cases e2 : p.1 = ld
    · exact .inr (.inl e2)
    exact .inr (.inr (mem_keepA.mpr ⟨hp, by simp only [List.forall_mem_cons]; exact ⟨e1, e2, fun _ h => nomatch h⟩⟩))
  have e1 : ∀ p ∈ led, p.1 ≠ dM → p.1 ≠ ld → p ∈ keepA led [dM, ld] := fun p hp q0 q1 => mem_keepA.mpr ⟨hp, by simp only [List.forall_mem_cons]; exact ⟨q0, q1, fun _ h => nomatch h⟩⟩
  have off0 : ∀ p ∈ keepA led [dM, ld], p.1 ≠ dM ∧ p.1 ≠ ld := fun p hp => by
    have := (mem_keepA.mp hp).2
    simp only [List.forall_mem_cons] at this
    exact ⟨this.1, this.2.1⟩
  have N2 : News h₀ L _ ((dM, om) :: (ld, lisOf [] nl9) :: keepA led [dM, ld]) := news_cons N b2 (news_cons N b6 (News.sub N fun p hp => (mem_keepA.mp hp).1))
  have f2 := e1 _ a2 (ne_L (by omega)) (ne_L (by omega))
  have f3 := e1 _ a3 (ne_L (by omega)) (ne_L (by omega))
  have f4 := e1 _ a4 (ne_L (by omega)) (ne_L (by omega))
  have f6 := e1 _ b1 (ne_L (by omega)) (ne_L (by omega))
  have f8 := e1 _ o1 (ne_L (by omega)) (ne_L (by omega))
  have f9 := e1 _ o2 (ne_L (by omega)) (ne_L (by omega))
  generalize keepA led [dM, ld] = R0 at e1 off0 asc N2 f2 f3 f4 f6 f8 f9
  clear N
  have nld : @Ne Nat dM ld := ne_L (by omega)
  have ndl : @Ne Nat ld dM := ne_L (by omega)
  have offD : ∀ p ∈ R0, p.1 ≠ dM := fun p hp => (off0 p hp).1
  have offL : ∀ p ∈ R0, p.1 ≠ ld := fun p hp => (off0 p hp).2
  k_steps
  refine Held.of (wpAny_call (add_data_ok (hCx rfl rfl (by k_asm)) (Nat.lt_of_lt_of_le hdp (by decide)) (by k_asm) ?hne (.tail _ f6) hom ?_))
  case hne => simp only [List.forall_mem_cons]; exact ⟨ndl, offD⟩
  k_whole
  intro h1 tk1 t1 om1 F1 N1 hom1
  try dsimp only
  try k_sweep
  k_steps
  refine Held.of (wpAny_call (loaded_ok (hCx rfl rfl (by k_asm)) (Nat.lt_of_lt_of_le hdp (by decide)) (by k_asm) ?_))
  k_whole
  intro h2 tk2 lo dlo ol F2 N2 hL2 l2 l3
  try dsimp only
  have l2o : ∀ p ∈ led, p.1 < dlo := fun p hp => by
    rcases asc p hp with e | e | e
    · rw [e]; exact l2 (dM, om1) (.head _)
    · rw [e]; exact l2 (ld, lisOf [] nl9) (.tail _ (.head _))
    · exact l2 p (.tail _ (.tail _ e))
  try k_lt l2
  try k_sweep
  k_steps
  (rename News _ _ _ _ => kN); (rename Fr _ _ _ _ => kF)
  exact k _ _ _ (nl9 + 1) lo dlo ol om1 kF kN (fun p hp q1 q2 => .tail _ (.tail _ (.tail _ (.tail _ (e1 p hp q1 q2))))) (.tail _ (.tail _ (.tail _ (.head _)))) (.tail _ (.tail _ (.head _))) hom1 (.head _) (.tail _ (.head _)) hL2 l2o l3
theorem law_7 {kS so lo k5 : Obj} {src lst : Addr} {p5 : Option Value} (hlk : List.lookup 430 (MineH.K w.params) = some ⟨oc, od, .func (fnOf name qual params body scope dV kV doc pm an cdv ct), osl⟩) (hst : body[7]? = some st)
  (B : Below A₀ base [] h₀) (F : Fr h₀ L s.heap m₀) (N : News h₀ L s.heap led) (X : (MineH.K w.params).In h₀) (T : Top MineH.qv LB mean mg mb h₀) (hdp : d < 400) (hu : u ≤ 800)
  (s1 : (src, so) ∈ led) (s2 : (lst, lo) ∈ led) (hS : SrcIs lst so lo) (hls : @LT.lt Nat _ lst src) (a1 : (L + 1, kS) ∈ led) (d1 : kS.data = .cell (some (.ref src))) (a5 : (L + 1 + 1 + 1 + 1 + 1, k5) ∈ led) (d5 : k5.data = .cell p5) (n1 : @LT.lt Nat _ (L + 1 + 1 + 1 + 1 + 1) lst)
  (k : ∀ h' tk led' so' lo' k5' t (n : Nat), Fr h₀ L h' m₀ → News h₀ L h' led' → (∀ p ∈ led, p.1 ≠ src → p.1 ≠ lst → p.1 ≠ L + 1 + 1 + 1 + 1 + 1 → p ∈ led') → (src, so') ∈ led' → (lst, lo') ∈ led' → SrcIs lst so' lo' → (L + 1 + 1 + 1 + 1 + 1, k5') ∈ led' → k5'.data = .cell (some (.int (n : Int) t)) → 0 < n → n ≤ 6 → Q .next { s with heap := h', toks := tk }) :
  wpAny (model P2 w) (mkA none d (envOfC qual scope L fa cd) [] gs u) (exec st (envOfC qual scope L fa cd)) Q
    (fun e s' => wpAny (model P2 w) (mkA none d (envOfC qual scope L fa cd) [] gs u) (leaving (envOfC qual scope L fa cd) e) (fun _ s'' => R (.error e) s'') (fun e' s'' => R (.error e') s'') s') s := by
  rw [show List.lookup 430 (MineH.K w.params) = some _ from (by k_is)] at hlk
  cases hlk
  cases hst
  (try dsimp only)
  (try k_fold)
  have hCx : ∀ {m' : Str → Option Value} {h' : Heap} {env : Env}, env.frame = some L → env.scope.kind = .function → Fr h₀ L h' m' → Cb w A₀ base h₀ [] env L m' mg mb mean h' := fun e1 e2 F => ⟨B, F, X, T, e1, e2⟩
  have e1 : ∀ p ∈ led, p.1 ≠ src → p.1 ≠ lst → p.1 ≠ L + 1 + 1 + 1 + 1 + 1 → p ∈ keepA led [src, lst, L + 1 + 1 + 1 + 1 + 1] := fun p hp q0 q1 q2 => mem_keepA.mpr ⟨hp, by simp only [List.forall_mem_cons]; exact ⟨q0, q1, q2, fun _ h => nomatch h⟩⟩
  have off0 : ∀ p ∈ keepA led [src, lst, L + 1 + 1 + 1 + 1 + 1], p.1 ≠ src ∧ p.1 ≠ lst ∧ p.1 ≠ L + 1 + 1 + 1 + 1 + 1 := fun p hp => by
    have := (mem_keepA.mp hp).2
    simp only [List.forall_mem_cons] at this
    exact ⟨this.1, this.2.1, this.2.2.1⟩
  have N2 : News h₀ L _ ((src, so) :: (lst, lo) :: (L + 1 + 1 + 1 + 1 + 1, k5) :: keepA led [src, lst, L + 1 + 1 + 1 + 1 + 1]) := news_cons N s1 (news_cons N s2 (news_cons N a5 (News.sub N fun p hp => (mem_keepA.mp hp).1)))
  have f1 := e1 _ a1 (ne_L (by omega)) (ne_L (by omega)) (ne_L (by omega))
  generalize keepA led [src, lst, L + 1 + 1 + 1 + 1 + 1] = R0 at e1 off0 N2 f1
  clear N
  have off5 : ∀ p ∈ R0, p.1 ≠ L + 1 + 1 + 1 + 1 + 1 := fun p hp => (off0 p hp).2.2
  have ns5 : @Ne Nat src (L + 1 + 1 + 1 + 1 + 1) := ne_L (by omega)
  have nl5 : @Ne Nat lst (L + 1 + 1 + 1 + 1 + 1) := ne_L (by omega)
  k_steps
  refine Held.of (wpAny_call (take_m (rest := (L + 1 + 1 + 1 + 1 + 1, k5) :: R0) (hCx rfl rfl (by k_asm)) (by omega) (by omega) N2 (.head _) (.tail _ (.head _)) hS ?hr ?hf (by decide) (by decide) hls ?_))
  case hr => exact fun p hp => .tail _ (.tail _ hp)
  case hf => simp only [List.forall_mem_cons]; exact ⟨⟨ns5.symm, nl5.symm⟩, fun p hp => ⟨(off0 p hp).1, (off0 p hp).2.1⟩⟩
  k_whole
  intro h1 tk1 so' lo' x t1 F1 N1 hS1 x0 x1
  try dsimp only
  try k_sweep
  obtain ⟨n, hn⟩ : ∃ n : Nat, 1 + x = (n : Int) := ⟨(1 + x).toNat, by omega⟩
  k_steps
  (rename News _ _ _ _ => kN); (rename Fr _ _ _ _ => kF); (rename (_ : Obj).data = Data.cell (some (Value.int (1 + x) _)) => kD)
  rw [hn] at kD
  exact k _ _ _ so' lo' _ _ n kF kN (fun p hp q1 q2 q3 => .tail _ (.tail _ (.tail _ (e1 p hp q1 q2 q3)))) (.head _) (.tail _ (.head _)) hS1 (.tail _ (.tail _ (.head _))) kD (by omega) (by omega)
end
end
section
open PySem PySem.W PyProof.Rows
theorem rst_37 {M : Model} {A : Around} {Q : Unit → Shared → Prop} {E : Value → Shared → Prop} {s : Shared} (h : Q () s) : wpAny M A (Sem.pure ()) Q E s := by
  w_top off
  first | walk1 | exact wpAny_pure h
end
section
open PySem PySem.W PySem.Calls PyProof.Rows PyProof.V
theorem fill_L7 : MineH.K = MineH.K ∧ PySem.Challenge.rw_pb0376_02 = PySem.Challenge.rw_pb0376_02 := by k_fill; exact ⟨rfl, rfl⟩
section
variable {w : World} {A₀ : Around} {base h₀ : Heap} {L fa : Addr} {mg mb : Str → Option Value} {mean : ExcName → Option Value} {s : Shared} {Q : Flow → Shared → Prop} {R : Result → Shared → Prop}
  {d u : Nat} {gs : Option (List Code)} {oc : Value} {od : Option Addr} {name qual : Str} {params : Arguments} {body : List Stmt} {scope : Scope} {dV kV doc pm cdv ct cd : Value} {an : Option Addr} {osl : Array (Option Value)}
  {led : List (Addr × Obj)} {m₀ : Str → Option Value} {st : Stmt}
theorem law_10 {kS kC so lo : Obj} {src lst : Addr} {n : Nat} {tc : Tok} (hlk : List.lookup 430 (MineH.K w.params) = some ⟨oc, od, .func (fnOf name qual params body scope dV kV doc pm an cdv ct), osl⟩) (hst : body[10]? = some st)
  (B : Below A₀ base [] h₀) (F : Fr h₀ L s.heap m₀) (N : News h₀ L s.heap led) (X : (MineH.K w.params).In h₀) (T : Top MineH.qv LB mean mg mb h₀) (hdp : d < 400) (hu : u ≤ 800)
  (s1 : (src, so) ∈ led) (s2 : (lst, lo) ∈ led) (hS : SrcIs lst so lo) (hls : @LT.lt Nat _ lst src) (a1 : (L + 1, kS) ∈ led) (d1 : kS.data = .cell (some (.ref src))) (a5 : (L + 1 + 1 + 1 + 1 + 1, kC) ∈ led) (d5 : kC.data = .cell (some (.int (n : Int) tc))) (hn0 : 0 < n) (hn : n ≤ 6) (n1 : @LT.lt Nat _ (L + 1 + 1 + 1 + 1 + 1) lst)
  (k : ∀ h' tk led' so' lo' t (bk : Nat), Fr h₀ L h' (fun y => if y = Str.ofString "back" then some (.int (bk : Int) t) else m₀ y) → News h₀ L h' led' → (∀ p ∈ led, p.1 ≠ src → p.1 ≠ lst → p ∈ led') → (src, so') ∈ led' → (lst, lo') ∈ led' → SrcIs lst so' lo' → bk < n → Q .next { s with heap := h', toks := tk }) :
  wpAny (model P2 w) (mkA none d (envOfC qual scope L fa cd) [] gs u) (exec st (envOfC qual scope L fa cd)) Q
    (fun e s' => wpAny (model P2 w) (mkA none d (envOfC qual scope L fa cd) [] gs u) (leaving (envOfC qual scope L fa cd) e) (fun _ s'' => R (.error e) s'') (fun e' s'' => R (.error e') s'') s') s := by
  rw [show List.lookup 430 (MineH.K w.params) = some _ from (by k_is)] at hlk
  cases hlk
  cases hst
  (try dsimp only)
  (try k_fold)
  have hCx : ∀ {m' : Str → Option Value} {h' : Heap} {env : Env}, env.frame = some L → env.scope.kind = .function → Fr h₀ L h' m' → Cb w A₀ base h₀ [] env L m' mg mb mean h' := fun e1 e2 F => ⟨B, F, X, T, e1, e2⟩
  have e1 : ∀ p ∈ led, p.1 ≠ src → p.1 ≠ lst → p ∈ keepA led [src, lst] := fun p hp q0 q1 => mem_keepA.mpr ⟨hp, by simp only [List.forall_mem_cons]; exact ⟨q0, q1, fun _ h => nomatch h⟩⟩
  have off0 : ∀ p ∈ keepA led [src, lst], p.1 ≠ src ∧ p.1 ≠ lst := fun p hp => by
    have := (mem_keepA.mp hp).2
    simp only [List.forall_mem_cons] at this
    exact ⟨this.1, this.2.1⟩
  have N2 : News h₀ L _ ((src, so) :: (lst, lo) :: keepA led [src, lst]) := news_cons N s1 (news_cons N s2 (News.sub N fun p hp => (mem_keepA.mp hp).1))
  have f1 := e1 _ a1 (ne_L (by omega)) (ne_L (by omega))
  have f5 := e1 _ a5 (ne_L (by omega)) (ne_L (by omega))
  generalize keepA led [src, lst] = R0 at e1 off0 N2 f1 f5
  clear N
  have hn1 : (0 : Int) < (n : Int) := by omega
  have hn2 : (n : Int) < 1000 := by omega
  k_steps
  refine Held.of (wpAny_call (take_m (rest := R0) (hCx rfl rfl (by k_asm)) (by omega) (by omega) N2 (.head _) (.tail _ (.head _)) hS ?hr ?hf hn1 hn2 hls ?_))
  case hr => exact fun p hp => .tail _ (.tail _ hp)
  case hf => exact off0
  k_whole
  intro h1 tk1 so' lo' x t1 F1 N1 hS1 x0 x1
  try dsimp only
  try k_sweep
  obtain ⟨bk, hbk⟩ : ∃ bk : Nat, x = (bk : Int) := ⟨x.toNat, by omega⟩
  subst hbk
  k_steps
  (rename News _ _ _ _ => kN); (rename Fr _ _ _ _ => kF)
  exact k _ _ _ so' lo' _ bk kF kN (fun p hp q1 q2 => .tail _ (.tail _ (e1 p hp q1 q2))) (.head _) (.tail _ (.head _)) hS1 (by omega)
theorem law_13 {kM om occ : Obj} {M dM mem hp cpu ld out gv dc rg rows ra : Addr} {pc r : Int} {ys : List Value} {ny bk : Nat} {tr tkb : Tok} {u1 u2 : Option Value} {m9 : Str → Option Value} {wa : Addr} (hlk : List.lookup 430 (MineH.K w.params) = some ⟨oc, od, .func (fnOf name qual params body scope dV kV doc pm an cdv ct), osl⟩) (hst : body[13]? = some st)
  (B : Below A₀ base [] h₀) (F : Fr h₀ L s.heap (fun y => if y = Str.ofString "spot" then u1 else if y = Str.ofString "following" then u2 else if y = Str.ofString "words" then some (.ref wa) else if y = Str.ofString "back" then some (.int (bk : Int) tkb) else if y = Str.ofString "rows" then some (.ref ra) else m9 y)) (N : News h₀ L s.heap led) (X : (MineH.K w.params).In h₀) (T : Top MineH.qv LB mean mg mb h₀) (hdp : d < 400) (hu : u ≤ 800)
  (a2 : (L + 1 + 1, kM) ∈ led) (d2 : kM.data = .cell (some (.ref M))) (b1 : (M, instObj 393 dM) ∈ led) (b2 : (dM, om) ∈ led) (hom : MachB om mem hp cpu ld out gv 100) (b3 : (cpu, instObj 245 dc) ∈ led) (b4 : (dc, occ) ∈ led) (hoc : CpuB occ mem rg pc rows)
  (c1 : (ra, lisOf ys ny) ∈ led) (hy : ys[(0 : Int).toNat]? = some (.int r tr)) (hyl : ys.length ≤ 100000) (n1 : @LT.lt Nat _ (L + 1 + 1) dM) (n2 : @LT.lt Nat _ dM M) (n3 : @LT.lt Nat _ M dc) (n4 : @LT.lt Nat _ dc cpu) (n5 : @Ne Nat ra dc)
  (k : ∀ h' tk led' occ', Fr h₀ L h' (fun y => if y = Str.ofString "spot" then u1 else if y = Str.ofString "following" then u2 else if y = Str.ofString "words" then some (.ref wa) else if y = Str.ofString "back" then some (.int (bk : Int) tkb) else if y = Str.ofString "rows" then some (.ref ra) else m9 y) → News h₀ L h' led' → (∀ p ∈ led, p.1 ≠ dc → p ∈ led') → (dc, occ') ∈ led' → CpuB occ' mem rg r rows → Q .next { s with heap := h', toks := tk }) :
  wpAny (model P2 w) (mkA none d (envOfC qual scope L fa cd) [] gs u) (exec st (envOfC qual scope L fa cd)) Q
    (fun e s' => wpAny (model P2 w) (mkA none d (envOfC qual scope L fa cd) [] gs u) (leaving (envOfC qual scope L fa cd) e) (fun _ s'' => R (.error e) s'') (fun e' s'' => R (.error e') s'') s') s := by
  rw [show List.lookup 430 (MineH.K w.params) = some _ from (by k_is)] at hlk
  cases hlk
  cases hst
  (try dsimp only)
  (try k_fold)
  have hCx : ∀ {m' : Str → Option Value} {h' : Heap} {env : Env}, env.frame = some L → env.scope.kind = .function → Fr h₀ L h' m' → Cb w A₀ base h₀ [] env L m' mg mb mean h' := fun e1 e2 F => ⟨B, F, X, T, e1, e2⟩
  have e1 : ∀ p ∈ led, p.1 ≠ dc → p ∈ keepA led [dc] := fun p hp q0 => mem_keepA.mpr ⟨hp, by simp only [List.forall_mem_cons]; exact ⟨q0, fun _ h => nomatch h⟩⟩
  have off0 : ∀ p ∈ keepA led [dc], p.1 ≠ dc := fun p hp => by
    have := (mem_keepA.mp hp).2
    simp only [List.forall_mem_cons] at this
    exact this.1
  have N2 : News h₀ L _ ((dc, occ) :: keepA led [dc]) := news_cons N b4 (News.sub N fun p hp => (mem_keepA.mp hp).1)
  have f2 := e1 _ a2 (ne_L (by omega))
  have f3 := e1 _ b1 (ne_L (by omega))
  have f4 := e1 _ b2 (ne_L (by omega))
  have f5 := e1 _ b3 (ne_L (by omega))
  have f6 := e1 _ c1 n5
  generalize keepA led [dc] = R0 at e1 off0 N2 f2 f3 f4 f5 f6
  clear N
  k_steps
  (rename News _ _ _ _ => kN); (rename Fr _ _ _ _ => kF); (rename CpuB _ _ _ r _ => kC)
  exact k _ _ _ _ kF kN (fun p hp q1 => .tail _ (e1 p hp q1)) (.head _) kC
theorem law_14 {kM kP om occ : Obj} {M dM mem hp cpu ld out gv dc rg rows pl : Addr} {pc r : Int} {ys rvs : List Value} {ny nr : Nat} {tr : Tok} (hlk : List.lookup 430 (MineH.K w.params) = some ⟨oc, od, .func (fnOf name qual params body scope dV kV doc pm an cdv ct), osl⟩) (hst : body[14]? = some st)
  (B : Below A₀ base [] h₀) (F : Fr h₀ L s.heap m₀) (N : News h₀ L s.heap led) (X : (MineH.K w.params).In h₀) (T : Top MineH.qv LB mean mg mb h₀) (hdp : d < 400) (hu : u ≤ 800)
  (a2 : (L + 1 + 1, kM) ∈ led) (d2 : kM.data = .cell (some (.ref M))) (b1 : (M, instObj 393 dM) ∈ led) (b2 : (dM, om) ∈ led) (hom : MachB om mem hp cpu ld out gv 100) (b3 : (cpu, instObj 245 dc) ∈ led) (b4 : (dc, occ) ∈ led) (hoc : CpuB occ mem rg pc rows)
  (a7 : (L + 1 + 1 + 1 + 1 + 1 + 1 + 1, kP) ∈ led) (d7 : kP.data = .cell (some (.ref pl))) (c1 : (pl, lisOf ys ny) ∈ led) (hy : ys[(0 : Int).toNat]? = some (.int r tr)) (hyl : ys.length ≤ 100000) (c2 : (rg, lisOf rvs nr) ∈ led) (hrl : rvs.length = 16) (n1 : @LT.lt Nat _ (L + 1 + 1 + 1 + 1 + 1 + 1 + 1) dM) (n2 : @LT.lt Nat _ dM M) (n3 : @LT.lt Nat _ M dc) (n4 : @LT.lt Nat _ dc cpu) (n5 : @LT.lt Nat _ cpu rg) (n6 : @Ne Nat pl rg)
  (k : ∀ h' tk led' nr', Fr h₀ L h' m₀ → News h₀ L h' led' → (∀ p ∈ led, p.1 ≠ rg → p ∈ led') → (rg, lisOf (rvs.set 11 (.int r tr)) nr') ∈ led' → Q .next { s with heap := h', toks := tk }) :
  wpAny (model P2 w) (mkA none d (envOfC qual scope L fa cd) [] gs u) (exec st (envOfC qual scope L fa cd)) Q
    (fun e s' => wpAny (model P2 w) (mkA none d (envOfC qual scope L fa cd) [] gs u) (leaving (envOfC qual scope L fa cd) e) (fun _ s'' => R (.error e) s'') (fun e' s'' => R (.error e') s'') s') s := by
  rw [show List.lookup 430 (MineH.K w.params) = some _ from (by k_is)] at hlk
  cases hlk
  cases hst
  (try dsimp only)
  (try k_fold)
  have hCx : ∀ {m' : Str → Option Value} {h' : Heap} {env : Env}, env.frame = some L → env.scope.kind = .function → Fr h₀ L h' m' → Cb w A₀ base h₀ [] env L m' mg mb mean h' := fun e1 e2 F => ⟨B, F, X, T, e1, e2⟩
  have e1 : ∀ p ∈ led, p.1 ≠ rg → p ∈ keepA led [rg] := fun p hp q0 => mem_keepA.mpr ⟨hp, by simp only [List.forall_mem_cons]; exact ⟨q0, fun _ h => nomatch h⟩⟩
  have off0 : ∀ p ∈ keepA led [rg], p.1 ≠ rg := fun p hp => by
    have := (mem_keepA.mp hp).2
    simp only [List.forall_mem_cons] at this
    exact this.1
  have N2 : News h₀ L _ ((rg, lisOf rvs nr) :: keepA led [rg]) := news_cons N c2 (News.sub N fun p hp => (mem_keepA.mp hp).1)
  have f2 := e1 _ a2 (ne_L (by omega))
  have f3 := e1 _ b1 (ne_L (by omega))
  have f4 := e1 _ b2 (ne_L (by omega))
  have f5 := e1 _ b3 (ne_L (by omega))
  have f6 := e1 _ b4 (ne_L (by omega))
  have f7 := e1 _ a7 (ne_L (by omega))
  have f8 := e1 _ c1 n6
  generalize keepA led [rg] = R0 at e1 off0 N2 f2 f3 f4 f5 f6 f7 f8
  clear N
  k_steps
  (rename News _ _ _ _ => kN); (rename Fr _ _ _ _ => kF)
  refine set_lis kF kN (.head off0) (by decide) (by rw [hrl]; decide) (by rw [hrl]; decide) ?_
  intro h' F' N'
  k_steps
  (rename News _ _ _ _ => kN); (rename Fr _ _ _ _ => kF)
  exact k _ _ _ _ kF kN (fun p hp q1 => .tail _ (e1 p hp q1)) (.head _)
end
end
section
open PySem PySem.W PyProof.Rows
theorem rst_38 {M : Model} {A : Around} {Q : Unit → Shared → Prop} {E : Value → Shared → Prop} {s : Shared} (h : Q () s) : wpAny M A (Sem.pure ()) Q E s := by
  w_top off
  first | walk1 | exact wpAny_pure h
end
section
open PySem PySem.W PySem.Calls PyProof.Rows PyProof.V
theorem fill_L8 : MineH.K = MineH.K ∧ PySem.Challenge.rw_pb0376_02 = PySem.Challenge.rw_pb0376_02 := by k_fill; exact ⟨rfl, rfl⟩
local macro_rules | `(tactic| walk_at "compareOp NotEq ref ref") => `(tactic| refine held ?_)
local macro_rules | `(tactic| walk_at "compareOp Eq ref ref") => `(tactic| refine held ?_)
local macro_rules | `(tactic| walk_at "call type:list") => `(tactic| refine held ?_)
local macro_rules | `(tactic| walk_at "newList") => `(tactic| refine held ?_)
theorem new_nil {prog : Program} {w : World} {A : Around} {E : Value → Shared → Prop} {s : Shared} {h₀ : Heap} {L : Addr} {m : Str → Option Value} {news : List (Addr × Obj)} {Q : Value → Shared → Prop} (F : Fr h₀ L s.heap m) (N : News h₀ L s.heap news)
    (h : ∀ D h', Fr h₀ L h' m → News h₀ L h' ((D, lisOf [] 0) :: news) → (∀ p ∈ news, p.1 < D) → Q (.ref D) { s with heap := h' }) : wpAny (model prog w) A (newList []) Q E s :=
  wpAny_newObj_type (h _ _ (F.push _) (N.push F _) fun p hp => Heap.lt_size (N p hp).1)
theorem WordsAre.wss {old led : List (Addr × Obj)} : ∀ {vs : List Value} {ls : List (List Int)}, WordsAre old led vs ls → ∃ wss : List (List Value), wss.length = vs.length ∧ (∀ i, i < vs.length → ∃ ra ws n, vs[i]? = some (.ref ra) ∧ wss[i]? = some ws ∧ (ra, lisOf ws n) ∈ led) ∧ IntsAre wss.flatten ls.flatten
  | [], [], _ => ⟨[], rfl, fun _ h => absurd h (Nat.not_lt_zero _), .nil⟩
  | v :: vs, l :: ls, h => by
    obtain ⟨⟨x, ws, k, q1, q2, q3, _⟩, r⟩ := h
    obtain ⟨wss, e1, e2, e3⟩ := WordsAre.wss r
    subst q1
    refine ⟨ws :: wss, by rw [List.length_cons, List.length_cons, e1], fun i hi => ?_, IntsAre.append q3 e3⟩
    cases i with
    | zero => exact ⟨x, ws, k, rfl, rfl, q2⟩
    | succ i => exact e2 i (Nat.lt_of_succ_lt_succ hi)
  | [], _ :: _, h => h.elim
  | _ :: _, [], h => h.elim
section
variable {w : World} {A₀ : Around} {base h₀ : Heap} {L fa : Addr} {mg mb : Str → Option Value} {mean : ExcName → Option Value} {s : Shared} {Q : Flow → Shared → Prop} {R : Result → Shared → Prop}
  {d u : Nat} {gs : Option (List Code)} {oc : Value} {od : Option Addr} {name qual : Str} {params : Arguments} {body : List Stmt} {scope : Scope} {dV kV doc pm cdv ct cd : Value} {an : Option Addr} {osl : Array (Option Value)}
  {led : List (Addr × Obj)} {m₀ : Str → Option Value} {st : Stmt}
theorem law_11  (hlk : List.lookup 430 (MineH.K w.params) = some ⟨oc, od, .func (fnOf name qual params body scope dV kV doc pm an cdv ct), osl⟩) (hst : body[11]? = some st)
  (B : Below A₀ base [] h₀) (F : Fr h₀ L s.heap m₀) (N : News h₀ L s.heap led) (X : (MineH.K w.params).In h₀) (T : Top MineH.qv LB mean mg mb h₀) (hdp : d < 400) (hu : u ≤ 800)

  (k : ∀ h' tk D, Fr h₀ L h' (fun y => if y = Str.ofString "words" then some (.ref D) else m₀ y) → News h₀ L h' ((D, lisOf [] 0) :: led) → (∀ p ∈ led, p.1 < D) → Q .next { s with heap := h', toks := tk }) :
  wpAny (model P2 w) (mkA none d (envOfC qual scope L fa cd) [] gs u) (exec st (envOfC qual scope L fa cd)) Q
    (fun e s' => wpAny (model P2 w) (mkA none d (envOfC qual scope L fa cd) [] gs u) (leaving (envOfC qual scope L fa cd) e) (fun _ s'' => R (.error e) s'') (fun e' s'' => R (.error e') s'') s') s := by
  rw [show List.lookup 430 (MineH.K w.params) = some _ from (by k_is)] at hlk
  cases hlk
  cases hst
  (try dsimp only)
  (try k_fold)
  have hCx : ∀ {m' : Str → Option Value} {h' : Heap} {env : Env}, env.frame = some L → env.scope.kind = .function → Fr h₀ L h' m' → Cb w A₀ base h₀ [] env L m' mg mb mean h' := fun e1 e2 F => ⟨B, F, X, T, e1, e2⟩
  k_steps
  (rename News _ _ _ _ => kN); (rename Fr _ _ _ _ => kF)
  refine Held.of (new_nil kF kN ?_)
  intro D h1 F1 N1 l1
  k_steps
  (rename News _ _ _ _ => kN); (rename Fr _ _ _ _ => kF)
  exact k _ _ _ kF kN l1
theorem law_15 {bk : Nat} {tkb : Tok} {u1 u2 : Option Value} {m9 : Str → Option Value} {wa ra : Addr} (hlk : List.lookup 430 (MineH.K w.params) = some ⟨oc, od, .func (fnOf name qual params body scope dV kV doc pm an cdv ct), osl⟩) (hst : body[15]? = some st)
  (B : Below A₀ base [] h₀) (F : Fr h₀ L s.heap (fun y => if y = Str.ofString "spot" then u1 else if y = Str.ofString "following" then u2 else if y = Str.ofString "words" then some (.ref wa) else if y = Str.ofString "back" then some (.int (bk : Int) tkb) else if y = Str.ofString "rows" then some (.ref ra) else m9 y)) (N : News h₀ L s.heap led) (X : (MineH.K w.params).In h₀) (T : Top MineH.qv LB mean mg mb h₀) (hdp : d < 400) (hu : u ≤ 800)

  (k : ∀ h' tk D, Fr h₀ L h' (fun y => if y = Str.ofString "due" then some (.ref D) else ((fun y => if y = Str.ofString "spot" then u1 else if y = Str.ofString "following" then u2 else if y = Str.ofString "words" then some (.ref wa) else if y = Str.ofString "back" then some (.int (bk : Int) tkb) else if y = Str.ofString "rows" then some (.ref ra) else m9 y)) y) → News h₀ L h' ((D, lisOf [] 0) :: led) → (∀ p ∈ led, p.1 < D) → Q .next { s with heap := h', toks := tk }) :
  wpAny (model P2 w) (mkA none d (envOfC qual scope L fa cd) [] gs u) (exec st (envOfC qual scope L fa cd)) Q
    (fun e s' => wpAny (model P2 w) (mkA none d (envOfC qual scope L fa cd) [] gs u) (leaving (envOfC qual scope L fa cd) e) (fun _ s'' => R (.error e) s'') (fun e' s'' => R (.error e') s'') s') s := by
  rw [show List.lookup 430 (MineH.K w.params) = some _ from (by k_is)] at hlk
  cases hlk
  cases hst
  (try dsimp only)
  (try k_fold)
  have hCx : ∀ {m' : Str → Option Value} {h' : Heap} {env : Env}, env.frame = some L → env.scope.kind = .function → Fr h₀ L h' m' → Cb w A₀ base h₀ [] env L m' mg mb mean h' := fun e1 e2 F => ⟨B, F, X, T, e1, e2⟩
  k_steps
  (rename News _ _ _ _ => kN); (rename Fr _ _ _ _ => kF)
  refine Held.of (new_nil kF kN ?_)
  intro D h1 F1 N1 l1
  k_steps
  (rename News _ _ _ _ => kN); (rename Fr _ _ _ _ => kF)
  exact k _ _ _ kF kN l1
theorem law_16 {ka : Obj} {p6 : Option Value} (hlk : List.lookup 430 (MineH.K w.params) = some ⟨oc, od, .func (fnOf name qual params body scope dV kV doc pm an cdv ct), osl⟩) (hst : body[16]? = some st)
  (B : Below A₀ base [] h₀) (F : Fr h₀ L s.heap m₀) (N : News h₀ L s.heap led) (X : (MineH.K w.params).In h₀) (T : Top MineH.qv LB mean mg mb h₀) (hdp : d < 400) (hu : u ≤ 800)
  (a6 : (L + 1 + 1 + 1 + 1 + 1 + 1, ka) ∈ led) (d6 : ka.data = .cell p6)
  (k : ∀ h' tk led' ka' t, Fr h₀ L h' m₀ → News h₀ L h' led' → (∀ p ∈ led, p.1 ≠ L + 1 + 1 + 1 + 1 + 1 + 1 → p ∈ led') → (L + 1 + 1 + 1 + 1 + 1 + 1, ka') ∈ led' → ka'.data = .cell (some (.int 0 t)) → Q .next { s with heap := h', toks := tk }) :
  wpAny (model P2 w) (mkA none d (envOfC qual scope L fa cd) [] gs u) (exec st (envOfC qual scope L fa cd)) Q
    (fun e s' => wpAny (model P2 w) (mkA none d (envOfC qual scope L fa cd) [] gs u) (leaving (envOfC qual scope L fa cd) e) (fun _ s'' => R (.error e) s'') (fun e' s'' => R (.error e') s'') s') s := by
  rw [show List.lookup 430 (MineH.K w.params) = some _ from (by k_is)] at hlk
  cases hlk
  cases hst
  (try dsimp only)
  (try k_fold)
  have hCx : ∀ {m' : Str → Option Value} {h' : Heap} {env : Env}, env.frame = some L → env.scope.kind = .function → Fr h₀ L h' m' → Cb w A₀ base h₀ [] env L m' mg mb mean h' := fun e1 e2 F => ⟨B, F, X, T, e1, e2⟩
  have e1 : ∀ p ∈ led, p.1 ≠ L + 1 + 1 + 1 + 1 + 1 + 1 → p ∈ keepA led [L + 1 + 1 + 1 + 1 + 1 + 1] := fun p hp q0 => mem_keepA.mpr ⟨hp, by simp only [List.forall_mem_cons]; exact ⟨q0, fun _ h => nomatch h⟩⟩
  have off0 : ∀ p ∈ keepA led [L + 1 + 1 + 1 + 1 + 1 + 1], p.1 ≠ L + 1 + 1 + 1 + 1 + 1 + 1 := fun p hp => by
    have := (mem_keepA.mp hp).2
    simp only [List.forall_mem_cons] at this
    exact this.1
  have N2 : News h₀ L _ ((L + 1 + 1 + 1 + 1 + 1 + 1, ka) :: keepA led [L + 1 + 1 + 1 + 1 + 1 + 1]) := news_cons N a6 (News.sub N fun p hp => (mem_keepA.mp hp).1)
  generalize keepA led [L + 1 + 1 + 1 + 1 + 1 + 1] = R0 at e1 off0 N2 
  clear N
  k_steps
  (rename News _ _ _ _ => kN); (rename Fr _ _ _ _ => kF); (rename (_ : Obj).data = Data.cell (some (Value.int 0 _)) => kD)
  exact k _ _ _ _ _ kF kN (fun p hp q1 => .tail _ (e1 p hp q1)) (.head _) kD
theorem law_18 {kM om omem ow occ : Obj} {M dM mem dm wd hp cpu ld out gv dc rg rows da wa ra : Addr} {row fp b : Int} {tf tkb : Tok} {n nr c bk : Nat} {kvs : List (Int × Value)} {rvs : List Value} {f : Int → Int} {mo : Int → List Int} {I : Int → Int → Prop} {u1 u2 u9 : Option Value} {m9 : Str → Option Value} {dv : List Value} {ns : List Int} {nd : Nat} (hlk : List.lookup 430 (MineH.K w.params) = some ⟨oc, od, .func (fnOf name qual params body scope dV kV doc pm an cdv ct), osl⟩) (hst : body[18]? = some st)
  (B : Below A₀ base [] h₀) (F : Fr h₀ L s.heap (fun y => if y = Str.ofString "_" then u9 else if y = Str.ofString "due" then some (.ref da) else if y = Str.ofString "spot" then u1 else if y = Str.ofString "following" then u2 else if y = Str.ofString "words" then some (.ref wa) else if y = Str.ofString "back" then some (.int (bk : Int) tkb) else if y = Str.ofString "rows" then some (.ref ra) else m9 y)) (N : News h₀ L s.heap led) (X : (MineH.K w.params).In h₀) (T : Top MineH.qv LB mean mg mb h₀) (hdp : d < 400) (hu : u ≤ 800)
  (a2 : (L + 1 + 1, kM) ∈ led) (d2 : kM.data = .cell (some (.ref M))) (b1 : (M, instObj 393 dM) ∈ led) (b2 : (dM, om) ∈ led) (hom : MachB om mem hp cpu ld out gv 100)
  (b3 : (mem, instObj 301 dm) ∈ led) (b4 : (dm, omem) ∈ led) (hmem : MemB omem 464 wd) (b5 : (wd, ow) ∈ led) (hW : Words P2 w ow f c) (hwd : (wd == sysModules) = false)
  (b6 : (cpu, instObj 245 dc) ∈ led) (b7 : (dc, occ) ∈ led) (hcpu : CpuB occ mem rg row rows) (b8 : (rg, lisOf rvs nr) ∈ led) (hrv : rvs[(11 : Int).toNat]? = some (.int fp tf)) (hrl : rvs.length ≤ 100)
  (O : OneMod w led ld b n kvs) (hR : RingOk led b n kvs f mo I) (hI : I row fp)
  (c1 : (da, lisOf dv nd) ∈ led) (hdv : IntsAre dv ns) (hE : rootsK f mo 34 row fp = ns) (hns : ns.length ≤ 1000)
  (k : ∀ h' tk led', Fr h₀ L h' (fun y => if y = Str.ofString "_" then u9 else if y = Str.ofString "due" then some (.ref da) else if y = Str.ofString "spot" then u1 else if y = Str.ofString "following" then u2 else if y = Str.ofString "words" then some (.ref wa) else if y = Str.ofString "back" then some (.int (bk : Int) tkb) else if y = Str.ofString "rows" then some (.ref ra) else m9 y) → News h₀ L h' led' → (∀ p ∈ led, p ∈ led') → Q .next { s with heap := h', toks := tk }) :
  wpAny (model P2 w) (mkA none d (envOfC qual scope L fa cd) [] gs u) (exec st (envOfC qual scope L fa cd)) Q
    (fun e s' => wpAny (model P2 w) (mkA none d (envOfC qual scope L fa cd) [] gs u) (leaving (envOfC qual scope L fa cd) e) (fun _ s'' => R (.error e) s'') (fun e' s'' => R (.error e') s'') s') s := by
  rw [show List.lookup 430 (MineH.K w.params) = some _ from (by k_is)] at hlk
  cases hlk
  cases hst
  (try dsimp only)
  (try k_fold)
  have hCx : ∀ {m' : Str → Option Value} {h' : Heap} {env : Env}, env.frame = some L → env.scope.kind = .function → Fr h₀ L h' m' → Cb w A₀ base h₀ [] env L m' mg mb mean h' := fun e1 e2 F => ⟨B, F, X, T, e1, e2⟩
  k_steps
  refine Held.of (wpAny_call (stack_roots_ok (hCx rfl rfl (by k_asm)) (Nat.lt_of_lt_of_le hdp (by decide)) (by k_asm) b1 b2 hom b3 b4 hmem b5 hW hwd b6 b7 hcpu b8 hrv hrl O hR hI ?_))
  k_whole
  intro h1 tk1 q vals nv F1 N1 l1 hv
  try dsimp only
  try k_sweep
  k_steps
  rw [hE] at hv
  (rename News _ _ _ _ => kN); (rename Fr _ _ _ _ => kF)
  refine Held.of (kup_listOf (zs := vals) kF kN (.head _) (by simp) ?_ ?hz)
  case hz => rw [sizeLine_eq, List.toList_toArray, IntsAre.length hv]; omega
  intro D cD h2 F2 N2 l2
  try dsimp only
  k_steps
  (rename News _ _ _ _ => kN)
  refine Held.of (ne_intsK (News.isList kN (.head _)) hv (News.isList kN (.tail _ (.tail _ c1))) hdv (by units_room) ?_)
  rw [show (!decide (ns = ns)) = false from by simp]
  k_steps
  (rename News _ _ _ _ => kN); (rename Fr _ _ _ _ => kF)
  exact k _ _ _ kF kN (fun p hp => .tail _ (.tail _ hp))
theorem law_19 {kM kC kP om omem ow : Obj} {M dM mem dm wd hp cpu ld out gv pl : Addr} {tc : Tok} {n nP c : Nat} {pv : List Value} {f : Int → Int} (hlk : List.lookup 430 (MineH.K w.params) = some ⟨oc, od, .func (fnOf name qual params body scope dV kV doc pm an cdv ct), osl⟩) (hst : body[19]? = some st)
  (B : Below A₀ base [] h₀) (F : Fr h₀ L s.heap m₀) (N : News h₀ L s.heap led) (X : (MineH.K w.params).In h₀) (T : Top MineH.qv LB mean mg mb h₀) (hdp : d < 400) (hu : u ≤ 800)
  (a2 : (L + 1 + 1, kM) ∈ led) (d2 : kM.data = .cell (some (.ref M))) (a5 : (L + 1 + 1 + 1 + 1 + 1, kC) ∈ led) (d5 : kC.data = .cell (some (.int (n : Int) tc))) (a7 : (L + 1 + 1 + 1 + 1 + 1 + 1 + 1, kP) ∈ led) (d7 : kP.data = .cell (some (.ref pl)))
  (b1 : (M, instObj 393 dM) ∈ led) (b2 : (dM, om) ∈ led) (hom : MachB om mem hp cpu ld out gv 100) (b3 : (mem, instObj 301 dm) ∈ led) (b4 : (dm, omem) ∈ led) (hmem : MemB omem 464 wd) (b5 : (wd, ow) ∈ led) (hW : Words P2 w ow f c) (hwd : (wd == sysModules) = false) (hc : c ≤ 1000)
  (c1 : (pl, lisOf pv nP) ∈ led) (hpv : IntsAre pv (placesL n)) (hn0 : 0 < n) (hn : n ≤ 6)
  (n1 : @LT.lt Nat _ (L + 1 + 1 + 1 + 1 + 1 + 1 + 1) dM) (n2 : @LT.lt Nat _ dM M) (n3 : @LT.lt Nat _ M dm) (n4 : @LT.lt Nat _ dm mem) (n5 : @LT.lt Nat _ mem wd) (n6 : @Ne Nat pl wd)
  (k : ∀ h' tk led' ow' c', Fr h₀ L h' m₀ → News h₀ L h' led' → (∀ p ∈ led, p.1 ≠ wd → p ∈ led') → (wd, ow') ∈ led' → Words P2 w ow' (fun x => if x = (pAt n (n - 1) - 4).fdiv 4 then 0 else f x) c' → Q .next { s with heap := h', toks := tk }) :
  wpAny (model P2 w) (mkA none d (envOfC qual scope L fa cd) [] gs u) (exec st (envOfC qual scope L fa cd)) Q
    (fun e s' => wpAny (model P2 w) (mkA none d (envOfC qual scope L fa cd) [] gs u) (leaving (envOfC qual scope L fa cd) e) (fun _ s'' => R (.error e) s'') (fun e' s'' => R (.error e') s'') s') s := by
  rw [show List.lookup 430 (MineH.K w.params) = some _ from (by k_is)] at hlk
  cases hlk
  cases hst
  (try dsimp only)
  (try k_fold)
  have hCx : ∀ {m' : Str → Option Value} {h' : Heap} {env : Env}, env.frame = some L → env.scope.kind = .function → Fr h₀ L h' m' → Cb w A₀ base h₀ [] env L m' mg mb mean h' := fun e1 e2 F => ⟨B, F, X, T, e1, e2⟩
  have e1 : ∀ p ∈ led, p.1 ≠ wd → p ∈ keepA led [wd] := fun p hp q0 => mem_keepA.mpr ⟨hp, by simp only [List.forall_mem_cons]; exact ⟨q0, fun _ h => nomatch h⟩⟩
  have off0 : ∀ p ∈ keepA led [wd], p.1 ≠ wd := fun p hp => by
    have := (mem_keepA.mp hp).2
    simp only [List.forall_mem_cons] at this
    exact this.1
  have N2 : News h₀ L _ ((wd, ow) :: keepA led [wd]) := news_cons N b5 (News.sub N fun p hp => (mem_keepA.mp hp).1)
  have f2 := e1 _ a2 (ne_L (by omega))
  have f5 := e1 _ a5 (ne_L (by omega))
  have f7 := e1 _ a7 (ne_L (by omega))
  have g1 := e1 _ b1 (ne_L (by omega))
  have g2 := e1 _ b2 (ne_L (by omega))
  have g3 := e1 _ b3 (ne_L (by omega))
  have g4 := e1 _ b4 (ne_L (by omega))
  have g5 := e1 _ c1 n6
  generalize keepA led [wd] = R0 at e1 off0 N2 f2 f5 f7 g1 g2 g3 g4 g5
  clear N
  have hpl : pv.length = n := by rw [IntsAre.length hpv]; unfold placesL; rw [List.length_map, List.length_range]
  have hpl9 : pv.length ≤ 100000 := by omega
  obtain ⟨tp, hp0⟩ := ints_get hpv (places_get (show n - 1 < n by omega))
  have hp1 : pv[((n : Int) - 1).toNat]? = some (.int (pAt n (n - 1)) tp) := by rw [show ((n : Int) - 1).toNat = n - 1 by omega]; exact hp0
  k_steps
  have q1 : 0 ≤ pAt n (n - 1) - 4 := by unfold pAt; omega
  have q2 : pAt n (n - 1) - 4 < 464 := by unfold pAt; omega
  refine Held.of (wpAny_call (put_word_m (rest := R0) (hCx rfl rfl (by k_asm)) (Nat.lt_of_lt_of_le hdp (by decide)) N2 (.head _) (fun p hp => .tail _ hp) g3 g4 hmem off0 hW hwd hc q1 q2 ?_))
  k_whole
  intro h1 tk1 ow1 F1 N1 hW1
  try dsimp only
  try k_sweep
  k_steps
  (rename News _ _ _ _ => kN); (rename Fr _ _ _ _ => kF)
  exact k _ _ _ ow1 _ kF kN (fun p hp q => .tail _ (e1 p hp q)) (.head _) hW1
theorem law_20 {kM om omem ow occ : Obj} {M dM mem dm wd hp cpu ld out gv dc rg rows da wa ra : Addr} {row fp b : Int} {tf tkb : Tok} {n nr c bk : Nat} {kvs : List (Int × Value)} {rvs : List Value} {f : Int → Int} {mo : Int → List Int} {I : Int → Int → Prop} {u1 u2 u9 : Option Value} {m9 : Str → Option Value} {wv : List Value} {wl : List (List Int)} {nW : Nat} (hlk : List.lookup 430 (MineH.K w.params) = some ⟨oc, od, .func (fnOf name qual params body scope dV kV doc pm an cdv ct), osl⟩) (hst : body[20]? = some st)
  (B : Below A₀ base [] h₀) (F : Fr h₀ L s.heap (fun y => if y = Str.ofString "_" then u9 else if y = Str.ofString "due" then some (.ref da) else if y = Str.ofString "spot" then u1 else if y = Str.ofString "following" then u2 else if y = Str.ofString "words" then some (.ref wa) else if y = Str.ofString "back" then some (.int (bk : Int) tkb) else if y = Str.ofString "rows" then some (.ref ra) else m9 y)) (N : News h₀ L s.heap led) (X : (MineH.K w.params).In h₀) (T : Top MineH.qv LB mean mg mb h₀) (hdp : d < 400) (hu : u ≤ 800)
  (a2 : (L + 1 + 1, kM) ∈ led) (d2 : kM.data = .cell (some (.ref M))) (b1 : (M, instObj 393 dM) ∈ led) (b2 : (dM, om) ∈ led) (hom : MachB om mem hp cpu ld out gv 100)
  (b3 : (mem, instObj 301 dm) ∈ led) (b4 : (dm, omem) ∈ led) (hmem : MemB omem 464 wd) (b5 : (wd, ow) ∈ led) (hW : Words P2 w ow f c) (hwd : (wd == sysModules) = false)
  (b6 : (cpu, instObj 245 dc) ∈ led) (b7 : (dc, occ) ∈ led) (hcpu : CpuB occ mem rg row rows) (b8 : (rg, lisOf rvs nr) ∈ led) (hrv : rvs[(11 : Int).toNat]? = some (.int fp tf)) (hrl : rvs.length ≤ 100)
  (O : OneMod w led ld b n kvs) (hR : RingOk led b n kvs f mo I) (hI : I row fp)
  (c1 : (wa, lisOf wv nW) ∈ led) (hwl : WordsAre [] led wv wl) (hE : rootsK f mo 34 row fp = wl.flatten) (hns : wl.flatten.length ≤ 1000)
  (k : ∀ h' tk led', Fr h₀ L h' (fun y => if y = Str.ofString "_" then u9 else if y = Str.ofString "due" then some (.ref da) else if y = Str.ofString "spot" then u1 else if y = Str.ofString "following" then u2 else if y = Str.ofString "words" then some (.ref wa) else if y = Str.ofString "back" then some (.int (bk : Int) tkb) else if y = Str.ofString "rows" then some (.ref ra) else m9 y) → News h₀ L h' led' → Q (.ret (.bool true)) { s with heap := h', toks := tk }) :
  wpAny (model P2 w) (mkA none d (envOfC qual scope L fa cd) [] gs u) (exec st (envOfC qual scope L fa cd)) Q
    (fun e s' => wpAny (model P2 w) (mkA none d (envOfC qual scope L fa cd) [] gs u) (leaving (envOfC qual scope L fa cd) e) (fun _ s'' => R (.error e) s'') (fun e' s'' => R (.error e') s'') s') s := by
  rw [show List.lookup 430 (MineH.K w.params) = some _ from (by k_is)] at hlk
  cases hlk
  cases hst
  (try dsimp only)
  (try k_fold)
  have hCx : ∀ {m' : Str → Option Value} {h' : Heap} {env : Env}, env.frame = some L → env.scope.kind = .function → Fr h₀ L h' m' → Cb w A₀ base h₀ [] env L m' mg mb mean h' := fun e1 e2 F => ⟨B, F, X, T, e1, e2⟩
  k_steps
  refine Held.of (wpAny_call (stack_roots_ok (hCx rfl rfl (by k_asm)) (Nat.lt_of_lt_of_le hdp (by decide)) (by k_asm) b1 b2 hom b3 b4 hmem b5 hW hwd b6 b7 hcpu b8 hrv hrl O hR hI ?_))
  k_whole
  intro h1 tk1 q vals nv F1 N1 l1 hv
  try dsimp only
  try k_sweep
  k_steps
  rw [hE] at hv
  (rename News _ _ _ _ => kN); (rename Fr _ _ _ _ => kF)
  refine Held.of (kup_listOf (zs := vals) kF kN (.head _) (by simp) ?_ ?hz)
  case hz => rw [sizeLine_eq, List.toList_toArray, IntsAre.length hv]; omega
  intro D cD h2 F2 N2 l2
  try dsimp only
  k_steps
  obtain ⟨wss, g1, g2, g3⟩ := hwl.wss
  refine Held.of ?_
  k_here
  k_dflt (refine flat_comp (L := L) (a := wa) (rows := wv) (n := nW) (wss := wss) (by decide) (by rfl) (by decide) (by decide) (by rfl) (by rfl) (by decide) (by decide) (by decide) (by rfl) (by rfl) (by rfl) (by rfl) (by rfl) F2 N2 (.tail _ (.tail _ c1)) g1 ?hrow ?hsz ?_)
  case hrow =>
    intro i hi
    obtain ⟨ra, ws, n, q1, q2, q3⟩ := g2 i hi
    exact ⟨ra, ws, n, q1, q2, .tail _ (.tail _ q3)⟩
  case hsz => rw [sizeLine_eq, IntsAre.length g3]; omega
  k_whole
  intro D3 h3 tk3 n3 F3 N3 l3
  try dsimp only
  k_steps
  (rename News _ _ _ _ => kN)
  refine Held.of (eq_intsK (News.isList kN (.tail _ (.head _))) hv (News.isList kN (.head _)) g3 (by units_room) ?_)
  rw [show (decide (wl.flatten = wl.flatten)) = true from by simp]
  k_steps
  (rename News _ _ _ _ => kN); (rename Fr _ _ _ _ => kF)
  exact k _ _ _ kF kN
end
end
section
open PySem PySem.W PyProof.Rows
theorem rst_39 {M : Model} {A : Around} {Q : Unit → Shared → Prop} {E : Value → Shared → Prop} {s : Shared} (h : Q () s) : wpAny M A (Sem.pure ()) Q E s := by
  w_top off
  first | walk1 | exact wpAny_pure h
end
section
open PySem PySem.W PySem.Calls PyProof.Rows PyProof.V PySem.Spec
/-- the offsets of a row -/
noncomputable def moK (ml : List (List Int)) (b : Int) (row : Int) : List Int := ml.getD (row - b).toNat []
theorem at32_of {a : Int} (h0 : 0 ≤ a) (h1 : a < 464) : at32 a = a := Int.fmod_eq_of_lt h0 (by omega)
theorem off_bd {n i : Nat} {o : Int} (hi : i < n) (hn : n ≤ 6) (ho : -24 ≤ o) (ho' : o ≤ -4) : 0 ≤ pAt n i + o ∧ pAt n i + o < 464 := by unfold pAt; omega
theorem off_k {o : Int} (h : OffOk o) : -24 ≤ o ∧ o ≤ -12 := by rcases h with e | e | e | e <;> omega
/-- what holds of the rows and the maps -/
structure Rws (n bk : Nat) (b : Int) (ml : List (List Int)) (rl : List Int) : Prop where
  h0 : 0 < n
  h6 : n ≤ 6
  hb : bk < n
  hl : rl.length = n
  hr : ∀ y ∈ rl, b ≤ y ∧ y < b + ml.length
  hb0 : 0 < b
  hm : ∀ l ∈ ml, ∀ o ∈ l, OffOk o
section
variable {n bk : Nat} {b : Int} {ml : List (List Int)} {rl : List Int} {f : Int → Int} {wl : List (List Int)}
theorem Rws.row (W : Rws n bk b ml rl) {i : Nat} (hi : i < n) : ∃ r, rl[i]? = some r ∧ r ≠ 0 ∧ (b ≤ r ∧ r < b + ml.length) ∧ ml[(r - b).toNat]? = some (moK ml b r) ∧ ∀ o ∈ moK ml b r, OffOk o := by
  have hlt : i < rl.length := by rw [W.hl]; exact hi
  refine ⟨rl[i], List.getElem?_eq_getElem hlt, ?_⟩
  have hy := W.hr _ (List.getElem_mem hlt)
  have hb0 := W.hb0
  have hlt2 : (rl[i] - b).toNat < ml.length := by omega
  have e : ml[(rl[i] - b).toNat]? = some (moK ml b rl[i]) := by
    unfold moK
    rw [List.getD_eq_getElem?_getD, List.getElem?_eq_getElem hlt2]
    rfl
  exact ⟨by omega, hy, e, fun o ho => W.hm _ (List.mem_of_getElem? e) o ho⟩
/-- one step of the ring -/
theorem roots_step (W : Rws n bk b ml rl) (D : Done n bk b ml rl f n wl) {i : Nat} (hi : i < n) {r r' : Int} (h1 : rl[i]? = some r) (h2 : rl[nx n bk i]? = some r') (t : Nat) :
    rootsK f (moK ml b) (t + 1) r (pAt n i) = wl.getD i [] ++ rootsK f (moK ml b) t r' (pAt n (nx n bk i)) := by
  obtain ⟨r0, e1, e2, e3, e4, e5⟩ := W.row hi
  cases h1.symm.trans e1
  have h6 := W.h6
  have b4 := off_bd (o := -4) hi h6 (by decide) (by decide)
  have b8 := off_bd (o := -8) hi h6 (by decide) (by decide)
  show (if r = 0 then [] else _) = _
  rw [if_neg e2, show pAt n i - 4 = pAt n i + -4 from rfl, show pAt n i - 8 = pAt n i + -8 from rfl, at32_of b4.1 b4.2, at32_of b8.1 b8.2]
  rw [show f ((pAt n i + -4).fdiv 4) = r' from D.h2 i r' hi h2, show f ((pAt n i + -8).fdiv 4) = pAt n (nx n bk i) from D.h3 i hi]
  rw [List.getD_eq_getElem?_getD, D.h4 i r _ hi h1 e4]
  congr 1
  refine map_cong fun o ho => ?_
  have b := off_bd hi h6 (off_k (e5 o ho)).1 (Int.le_trans (off_k (e5 o ho)).2 (by decide))
  rw [at32_of b.1 b.2]
noncomputable def dueR (n bk : Nat) (wl : List (List Int)) : Nat → Nat → List Int
  | 0, _ => []
  | t + 1, j => wl.getD (ring n bk j) [] ++ dueR n bk wl t (j + 1)
theorem dueL_add : ∀ t j, dueL n bk wl (j + t) = dueL n bk wl j ++ dueR n bk wl t j
  | 0, j => by rw [Nat.add_zero]; exact (List.append_nil _).symm
  | t + 1, j => by
    rw [show j + (t + 1) = (j + 1) + t by omega, dueL_add t (j + 1)]
    show (dueL n bk wl j ++ wl.getD (ring n bk j) []) ++ _ = _ ++ (_ ++ _)
    rw [List.append_assoc]
theorem roots_ring (W : Rws n bk b ml rl) (D : Done n bk b ml rl f n wl) : ∀ t j r, rl[ring n bk j]? = some r → rootsK f (moK ml b) t r (pAt n (ring n bk j)) = dueR n bk wl t j
  | 0, _, _, _ => rfl
  | t + 1, j, r, h => by
    have hj := ring_lt W.h0 W.hb j
    obtain ⟨r', e, _⟩ := W.row (nx_lt W.hb hj)
    rw [roots_step W D hj h e t]
    show _ = wl.getD (ring n bk j) [] ++ dueR n bk wl t (j + 1)
    rw [← roots_ring W D t (j + 1) r' e]
    rfl
/-- the words of the ring, as told -/
theorem roots_due (W : Rws n bk b ml rl) (D : Done n bk b ml rl f n wl) {r : Int} (h : rl[0]? = some r) : rootsK f (moK ml b) 34 r (pAt n 0) = dueL n bk wl 34 := by
  have := dueL_add (n := n) (bk := bk) (wl := wl) 34 0
  rw [Nat.zero_add] at this
  rw [this]
  exact roots_ring W D 34 0 r h
/-- the last frame's return row let go -/
noncomputable def cutK (n : Nat) (f : Int → Int) : Int → Int := fun x => if x = (pAt n (n - 1) - 4).fdiv 4 then 0 else f x
theorem cut_at {i : Nat} {o : Int} (hi : i < n) (hn : n ≤ 6) (ho : -24 ≤ o) (ho' : o ≤ -8) : cutK n f ((pAt n i + o).fdiv 4) = f ((pAt n i + o).fdiv 4) := by
  unfold cutK
  rw [if_neg (by rw [fd4, fd4]; unfold pAt; omega)]
theorem cut_4 {i : Nat} (hi : i + 1 < n) (hn : n ≤ 6) : cutK n f ((pAt n i - 4).fdiv 4) = f ((pAt n i - 4).fdiv 4) := by
  unfold cutK
  rw [if_neg (by rw [fd4, fd4]; unfold pAt; omega)]
theorem cut_9 : cutK n f ((pAt n (n - 1) - 4).fdiv 4) = 0 := if_pos rfl
theorem roots_cut (W : Rws n bk b ml rl) (D : Done n bk b ml rl f n wl) : ∀ k i t r, i + k + 1 = n → k + 1 ≤ t → rl[i]? = some r → rootsK (cutK n f) (moK ml b) t r (pAt n i) = (wl.drop i).flatten
  | _, _, 0, _, _, h, _ => absurd h (Nat.not_succ_le_zero _)
  | k, i, t + 1, r, hk, ht, h1 => by
    have hi : i < n := by omega
    obtain ⟨r0, e1, e2, e3, e4, e5⟩ := W.row hi
    cases h1.symm.trans e1
    have h6 := W.h6
    have b4 := off_bd (o := -4) hi h6 (by decide) (by decide)
    have b8 := off_bd (o := -8) hi h6 (by decide) (by decide)
    have hd : wl.drop i = ((moK ml b r).map fun o => f ((pAt n i + o).fdiv 4)) :: wl.drop (i + 1) := by
      have hl : i < wl.length := by rw [D.h1]; exact hi
      rw [List.drop_eq_getElem_cons hl]
      congr 1
      have := D.h4 i r _ hi h1 e4
      rw [List.getElem?_eq_getElem hl] at this
      exact Option.some.inj this
    show (if r = 0 then [] else _) = _
    rw [if_neg e2, show pAt n i - 4 = pAt n i + -4 from rfl, show pAt n i - 8 = pAt n i + -8 from rfl, at32_of b4.1 b4.2, at32_of b8.1 b8.2, hd, List.flatten_cons]
    congr 1
    · refine map_cong fun o ho => ?_
      have q := off_k (e5 o ho)
      have b := off_bd hi h6 q.1 (Int.le_trans q.2 (by decide))
      rw [at32_of b.1 b.2, cut_at hi h6 q.1 (Int.le_trans q.2 (by decide))]
    · rw [cut_at (o := -8) hi h6 (by decide) (by decide), show f ((pAt n i + -8).fdiv 4) = pAt n (nx n bk i) from D.h3 i hi]
      cases k with
      | zero =>
        have e : i = n - 1 := by omega
        subst e
        rw [show cutK n f ((pAt n (n - 1) + -4).fdiv 4) = 0 from cut_9, roots_zero, List.drop_eq_nil_of_le (by rw [D.h1]; omega)]
        rfl
      | succ k =>
        have hlt : i + 1 < n := by omega
        have hnx : nx n bk i = i + 1 := if_pos hlt
        obtain ⟨r', e', _⟩ := W.row hlt
        rw [show cutK n f ((pAt n i + -4).fdiv 4) = r' from (cut_4 hlt h6).trans (D.h2 i r' hi (hnx.symm ▸ e')), hnx]
        exact roots_cut W D k (i + 1) t r' (by omega) (by omega) e'
theorem roots_flat (W : Rws n bk b ml rl) (D : Done n bk b ml rl f n wl) {r : Int} (h : rl[0]? = some r) : rootsK (cutK n f) (moK ml b) 34 r (pAt n 0) = wl.flatten :=
  have h0 := W.h0
  have h6 := W.h6
  roots_cut W D (n - 1) 0 34 r (by omega) (by omega) h
/-- the invariants of the ring -/
noncomputable def InR (n : Nat) (rl : List Int) (row fp : Int) : Prop := ∃ i, i < n ∧ rl[i]? = some row ∧ fp = pAt n i
noncomputable def InC (n : Nat) (rl : List Int) (row fp : Int) : Prop := InR n rl row fp ∨ row = 0
theorem ring_ok {w : World} {old led : List (Addr × Obj)} {kvs : List (Int × Value)} (W : Rws n bk b ml rl) (D : Done n bk b ml rl f n wl)
    (e3 : ∀ (j : Nat) l, ml[j]? = some l → ∃ x vs k, valueAt kvs (j : Int) = some (.ref x) ∧ (x, lisOf vs k) ∈ led ∧ IntsAre vs l ∧ vs.length ≤ 4 ∧ (∀ y ∈ l, OffOk y) ∧ ∀ p ∈ old, p.1 ≠ x) : RingOk led b ml.length kvs f (moK ml b) (InR n rl) := by
  rintro row fp ⟨i, hi, h1, rfl⟩ _
  obtain ⟨r0, e1, e2, e3', e4, e5⟩ := W.row hi
  cases h1.symm.trans e1
  have h6 := W.h6
  have b4 := off_bd (o := -4) hi h6 (by decide) (by decide)
  have b8 := off_bd (o := -8) hi h6 (by decide) (by decide)
  obtain ⟨r', e', _⟩ := W.row (nx_lt W.hb hi)
  obtain ⟨x, vs, k, q1, q2, q3, q4, _⟩ := e3 _ _ e4
  refine ⟨e3', ⟨x, vs, k, by rw [show row - b = (((row - b).toNat : Nat) : Int) by omega]; exact q1, q2, q3, by omega⟩, fun o ho => ?_, ?_, ?_, ⟨nx n bk i, nx_lt W.hb hi, ?_, ?_⟩⟩
  · have q := off_k (e5 o ho)
    have b := off_bd hi h6 q.1 (Int.le_trans q.2 (by decide))
    rw [at32_of b.1 b.2]; exact b
  · rw [show pAt n i - 4 = pAt n i + -4 from rfl, at32_of b4.1 b4.2]; exact b4
  · rw [show pAt n i - 8 = pAt n i + -8 from rfl, at32_of b8.1 b8.2]; exact b8
  · rw [show pAt n i - 4 = pAt n i + -4 from rfl, at32_of b4.1 b4.2, show f ((pAt n i + -4).fdiv 4) = r' from D.h2 i r' hi e']; exact e'
  · rw [show pAt n i - 8 = pAt n i + -8 from rfl, at32_of b8.1 b8.2]; exact D.h3 i hi
theorem cut_ok {w : World} {old led : List (Addr × Obj)} {kvs : List (Int × Value)} (W : Rws n bk b ml rl) (D : Done n bk b ml rl f n wl)
    (e3 : ∀ (j : Nat) l, ml[j]? = some l → ∃ x vs k, valueAt kvs (j : Int) = some (.ref x) ∧ (x, lisOf vs k) ∈ led ∧ IntsAre vs l ∧ vs.length ≤ 4 ∧ (∀ y ∈ l, OffOk y) ∧ ∀ p ∈ old, p.1 ≠ x) : RingOk led b ml.length kvs (cutK n f) (moK ml b) (InC n rl) := by
  rintro row fp (⟨i, hi, h1, rfl⟩ | h) h0
  · obtain ⟨c1, c2, c3, c4, c5, _⟩ := ring_ok (w := w) W D e3 row _ ⟨i, hi, h1, rfl⟩ h0
    refine ⟨c1, c2, c3, c4, c5, ?_⟩
    have h6 := W.h6
    have b4 := off_bd (o := -4) hi h6 (by decide) (by decide)
    have b8 := off_bd (o := -8) hi h6 (by decide) (by decide)
    rw [show pAt n i - 4 = pAt n i + -4 from rfl, show pAt n i - 8 = pAt n i + -8 from rfl, at32_of b4.1 b4.2, at32_of b8.1 b8.2, cut_at (o := -8) hi h6 (by decide) (by decide), show f ((pAt n i + -8).fdiv 4) = pAt n (nx n bk i) from D.h3 i hi]
    by_cases hlt : i + 1 < n
    · have hnx : nx n bk i = i + 1 := if_pos hlt
      obtain ⟨r', e', _⟩ := W.row hlt
      rw [show cutK n f ((pAt n i + -4).fdiv 4) = r' from (cut_4 hlt h6).trans (D.h2 i r' hi (hnx.symm ▸ e')), hnx]
      exact .inl ⟨i + 1, hlt, e', rfl⟩
    · have e : i = n - 1 := by omega
      subst e
      rw [show cutK n f ((pAt n (n - 1) + -4).fdiv 4) = 0 from cut_9]
      exact .inr rfl
  · exact absurd h h0
theorem due_len (hw : ∀ l ∈ wl, l.length ≤ 4) : ∀ t, (dueL n bk wl t).length ≤ 4 * t
  | 0 => Nat.le_refl _
  | t + 1 => by
    show (dueL n bk wl t ++ wl.getD (ring n bk t) []).length ≤ _
    rw [List.length_append, List.getD_eq_getElem?_getD]
    have h1 := due_len hw t
    cases e : wl[ring n bk t]? with
    | none => simp; omega
    | some l =>
      have := hw l (List.mem_of_getElem? e)
      simp; omega
theorem flat_len : ∀ {wl : List (List Int)}, (∀ l ∈ wl, l.length ≤ 4) → wl.flatten.length ≤ 4 * wl.length
  | [], _ => Nat.le_refl _
  | l :: r, h => by
    rw [List.flatten_cons, List.length_append, List.length_cons]
    have h1 := h l (.head _)
    have h2 := flat_len (wl := r) fun l hl => h l (.tail _ hl)
    omega
theorem WordsAre.len4 {old led : List (Addr × Obj)} : ∀ {vs : List Value} {ls : List (List Int)}, WordsAre old led vs ls → ∀ l ∈ ls, l.length ≤ 4
  | [], [], _, _, h => nomatch h
  | _ :: _, l' :: ls, ⟨⟨x, ws, k, _, _, q3, q4, _⟩, r⟩, l, h => by
    rcases List.mem_cons.mp h with rfl | h
    · rw [← IntsAre.length q3]; exact q4
    · exact WordsAre.len4 r l h
  | [], _ :: _, h, _, _ => h.elim
  | _ :: _, [], h, _, _ => h.elim
end
end
section
open PySem PySem.W PySem.Calls PyProof.Rows PyProof.V
theorem fill_LZ : MineH.K = MineH.K ∧ PySem.Challenge.rw_pb0376_02 = PySem.Challenge.rw_pb0376_02 := by k_fill; exact ⟨rfl, rfl⟩
theorem body_len {w : World} {oc : Value} {od : Option Addr} {name qual : Str} {params : Arguments} {body : List Stmt} {scope : Scope} {dV kV doc pm cdv ct : Value} {an : Option Addr} {osl : Array (Option Value)}
    (hlk : List.lookup 430 (MineH.K w.params) = some ⟨oc, od, .func (fnOf name qual params body scope dV kV doc pm an cdv ct), osl⟩) : body.length = 21 := by
  rw [show List.lookup 430 (MineH.K w.params) = some _ from (by k_is)] at hlk
  cases hlk
  rfl
theorem exs {M : Model} {A : Around} {E : Value → Shared → Prop} {Q : Flow → Shared → Prop} {s : Shared} {env : Env} {body : List Stmt} {i : Nat} (hi : i < body.length)
    (h : ∀ st, body[i]? = some st → wpAny M A (exec st env) (fun f s' => match f with | .next => wpAny M A (execs (body.drop (i + 1)) env) Q E s' | f => Q f s') E s) : wpAny M A (execs (body.drop i) env) Q E s := by
  rw [List.drop_eq_getElem_cons hi]
  exact wpAny_execs_cons (h _ (List.getElem?_eq_getElem hi))
theorem WordsAre.tr {old led old' led' : List (Addr × Obj)} (h : ∀ x o, (x, o) ∈ led → (∀ p ∈ old, p.1 ≠ x) → (x, o) ∈ led' ∧ ∀ p ∈ old', p.1 ≠ x) : ∀ {vs : List Value} {ls : List (List Int)}, WordsAre old led vs ls → WordsAre old' led' vs ls
  | [], [], _ => trivial
  | _ :: _, _ :: _, hw => by
    obtain ⟨⟨x, ws, k, q1, q2, q3, q4, q5⟩, r⟩ := hw
    have z := h _ _ q2 q5
    exact ⟨⟨x, ws, k, q1, z.1, q3, q4, z.2⟩, WordsAre.tr h r⟩
  | [], _ :: _, h => h.elim
  | _ :: _, [], h => h.elim
theorem MapsAre.tr {w : World} {old led old' led' : List (Addr × Obj)} {om : Obj} {ml : List (List Int)} (hm : MapsAre w old led om ml) (h : ∀ x o, (x, o) ∈ led → (∀ p ∈ old, p.1 ≠ x) → (x, o) ∈ led' ∧ ∀ p ∈ old', p.1 ≠ x) : MapsAre w old' led' om ml := by
  obtain ⟨kvs, e1, e2, e3⟩ := hm
  refine ⟨kvs, e1, e2, fun j l hj => ?_⟩
  obtain ⟨x, vs, k, q1, q2, q3, q4, q5, q6⟩ := e3 j l hj
  have z := h _ _ q2 q6
  exact ⟨x, vs, k, q1, z.1, q3, q4, q5, z.2⟩
theorem MapsAre.off {w : World} {old led : List (Addr × Obj)} {om : Obj} {ml : List (List Int)} (hm : MapsAre w old led om ml) : ∀ l ∈ ml, ∀ o ∈ l, OffOk o := by
  obtain ⟨kvs, e1, e2, e3⟩ := hm
  intro l hl
  obtain ⟨j, hj⟩ := List.getElem?_of_mem hl
  obtain ⟨x, vs, k, q1, q2, q3, q4, q5, q6⟩ := e3 j l hj
  exact q5
section
variable {w : World} {A₀ : Around} {base h₀ : Heap} {L fa : Addr} {mg mb : Str → Option Value} {mean : ExcName → Option Value} {s : Shared} {Q : Flow → Shared → Prop} {R : Result → Shared → Prop}
  {d u : Nat} {gs : Option (List Code)} {oc : Value} {od : Option Addr} {name qual : Str} {params : Arguments} {body rest : List Stmt} {scope : Scope} {dV kV doc pm cdv ct cd : Value} {an : Option Addr} {osl : Array (Option Value)}
  {led0 : List (Addr × Obj)} {m₀ : Str → Option Value} {kS kM kO k4 k5 k6 k7 so lo om omem ow occ o9 oo ompo : Obj} {p4 p5 p6 p7 : Option Value} {src lst dM M dm mem wd dc cpu rg rows t9 ld dob ob mp rw hp out gv : Addr} {rvs rv : List Value} {nr n3 n4 nr5 c : Nat} {f : Int → Int}
theorem law_z (hlk : List.lookup 430 (MineH.K w.params) = some ⟨oc, od, .func (fnOf name qual params body scope dV kV doc pm an cdv ct), osl⟩) (hrest : body.drop 4 = rest)
  (B : Below A₀ base [] h₀) (F : Fr h₀ L s.heap m₀) (N : News h₀ L s.heap led0) (X : (MineH.K w.params).In h₀) (T : Top MineH.qv LB mean mg mb h₀) (hdp : d < 400) (hu : u ≤ 800)
  (A0 : AscL [L + 1, L + 1 + 1, L + 1 + 1 + 1, L + 1 + 1 + 1 + 1, L + 1 + 1 + 1 + 1 + 1, L + 1 + 1 + 1 + 1 + 1 + 1, L + 1 + 1 + 1 + 1 + 1 + 1 + 1, lst, src, dM, M, dm, mem, wd, dc, cpu, rg, rows, t9, ld, dob, ob, mp, rw])
  (a1 : (L + 1, kS) ∈ led0) (a2 : (L + 1 + 1, kM) ∈ led0) (a3 : (L + 1 + 1 + 1, kO) ∈ led0) (a4 : (L + 1 + 1 + 1 + 1, k4) ∈ led0) (a5 : (L + 1 + 1 + 1 + 1 + 1, k5) ∈ led0) (a6 : (L + 1 + 1 + 1 + 1 + 1 + 1, k6) ∈ led0) (a7 : (L + 1 + 1 + 1 + 1 + 1 + 1 + 1, k7) ∈ led0) (s2 : (lst, lo) ∈ led0) (s1 : (src, so) ∈ led0) (bdM : (dM, om) ∈ led0) (bM : (M, instObj 393 dM) ∈ led0) (bdm : (dm, omem) ∈ led0) (bmem : (mem, instObj 301 dm) ∈ led0) (bwd : (wd, ow) ∈ led0) (bdc : (dc, occ) ∈ led0) (bcpu : (cpu, instObj 245 dc) ∈ led0) (brg : (rg, lisOf rvs nr) ∈ led0) (brows : (rows, lisOf [.ref t9] n3) ∈ led0) (bt9 : (t9, o9) ∈ led0) (bld : (ld, lisOf [] n4) ∈ led0) (odob : (dob, oo) ∈ led0) (oob : (ob, instObj 414 dob) ∈ led0) (omp : (mp, ompo) ∈ led0) (orw : (rw, lisOf rv nr5) ∈ led0)
  (d1 : kS.data = .cell (some (.ref src))) (d2 : kM.data = .cell (some (.ref M))) (d3 : kO.data = .cell (some (.ref ob))) (c4 : k4.data = .cell p4) (c5 : k5.data = .cell p5) (c6 : k6.data = .cell p6) (c7 : k7.data = .cell p7)
  (hS : SrcIs lst so lo) (hls : @LT.lt Nat _ lst src) (hom : MachB om mem hp cpu ld out gv 100) (hmem : MemB omem 464 wd) (hW : Words P2 w ow f c) (hwd : (wd == sysModules) = false) (hcw : c ≤ 100) (hoc : CpuB occ mem rg 0 rows) (hrl16 : rvs.length = 16)
  (hO : ObjB oo rw mp) (hmp : ompo.IsDictOf (intKind P2 w) []) (hmps : (mp == sysModules) = false) (hr2 : 2 ≤ rv.length) (hr7 : rv.length ≤ 7)
  (k : ∀ h' tk m' led', Fr h₀ L h' m' → News h₀ L h' led' → Q (.ret (.bool true)) { s with heap := h', toks := tk }) :
  wpAny (model P2 w) (mkA none d (envOfC qual scope L fa cd) [] gs u) (execs rest (envOfC qual scope L fa cd)) Q
    (fun e s' => wpAny (model P2 w) (mkA none d (envOfC qual scope L fa cd) [] gs u) (leaving (envOfC qual scope L fa cd) e) (fun _ s'' => R (.error e) s'') (fun e' s'' => R (.error e') s'') s') s := by
  have hlen := body_len hlk
  subst hrest
  have P0 := ApL.of A0
  have za1 := a1
  have za2 := a2
  have za3 := a3
  have za4 := a4
  have za5 := a5
  have za6 := a6
  have za7 := a7
  have zs2 := s2
  have zs1 := s1
  have zbdM := bdM
  have zbM := bM
  have zbdm := bdm
  have zbmem := bmem
  have zbwd := bwd
  have zbdc := bdc
  have zbcpu := bcpu
  have zbrg := brg
  have zbrows := brows
  have zbt9 := bt9
  have zbld := bld
  have zodob := odob
  have zoob := oob
  have zomp := omp
  have zorw := orw
  refine exs (i := 4) (by rw [hlen]; decide) fun st hst => ?_
  refine law_b hlk hst B F N X T hdp hu a1 d1 a3 d3 s1 s2 hS hls omp hmp hmps oob odob hO orw (by omega) (A0.lt 2 7 rfl rfl rfl) (A0.lt 8 20 rfl rfl rfl) (A0.lt 20 21 rfl rfl rfl) (A0.lt 21 22 rfl rfl rfl) (A0.lt 22 23 rfl rfl rfl) ?_
  intro h1 tk1 m4 led1 so lo ompo ml F N e s1 s2 hS omp hmaps hml
  dsimp only
  replace a1 := e _ a1 (P0.ne 0 8 rfl rfl rfl) (P0.ne 0 7 rfl rfl rfl) (P0.ne 0 22 rfl rfl rfl)
  replace a2 := e _ a2 (P0.ne 1 8 rfl rfl rfl) (P0.ne 1 7 rfl rfl rfl) (P0.ne 1 22 rfl rfl rfl)
  replace a3 := e _ a3 (P0.ne 2 8 rfl rfl rfl) (P0.ne 2 7 rfl rfl rfl) (P0.ne 2 22 rfl rfl rfl)
  replace a4 := e _ a4 (P0.ne 3 8 rfl rfl rfl) (P0.ne 3 7 rfl rfl rfl) (P0.ne 3 22 rfl rfl rfl)
  replace a5 := e _ a5 (P0.ne 4 8 rfl rfl rfl) (P0.ne 4 7 rfl rfl rfl) (P0.ne 4 22 rfl rfl rfl)
  replace a6 := e _ a6 (P0.ne 5 8 rfl rfl rfl) (P0.ne 5 7 rfl rfl rfl) (P0.ne 5 22 rfl rfl rfl)
  replace a7 := e _ a7 (P0.ne 6 8 rfl rfl rfl) (P0.ne 6 7 rfl rfl rfl) (P0.ne 6 22 rfl rfl rfl)
  replace bdM := e _ bdM (P0.ne 9 8 rfl rfl rfl) (P0.ne 9 7 rfl rfl rfl) (P0.ne 9 22 rfl rfl rfl)
  replace bM := e _ bM (P0.ne 10 8 rfl rfl rfl) (P0.ne 10 7 rfl rfl rfl) (P0.ne 10 22 rfl rfl rfl)
  replace bdm := e _ bdm (P0.ne 11 8 rfl rfl rfl) (P0.ne 11 7 rfl rfl rfl) (P0.ne 11 22 rfl rfl rfl)
  replace bmem := e _ bmem (P0.ne 12 8 rfl rfl rfl) (P0.ne 12 7 rfl rfl rfl) (P0.ne 12 22 rfl rfl rfl)
  replace bwd := e _ bwd (P0.ne 13 8 rfl rfl rfl) (P0.ne 13 7 rfl rfl rfl) (P0.ne 13 22 rfl rfl rfl)
  replace bdc := e _ bdc (P0.ne 14 8 rfl rfl rfl) (P0.ne 14 7 rfl rfl rfl) (P0.ne 14 22 rfl rfl rfl)
  replace bcpu := e _ bcpu (P0.ne 15 8 rfl rfl rfl) (P0.ne 15 7 rfl rfl rfl) (P0.ne 15 22 rfl rfl rfl)
  replace brg := e _ brg (P0.ne 16 8 rfl rfl rfl) (P0.ne 16 7 rfl rfl rfl) (P0.ne 16 22 rfl rfl rfl)
  replace brows := e _ brows (P0.ne 17 8 rfl rfl rfl) (P0.ne 17 7 rfl rfl rfl) (P0.ne 17 22 rfl rfl rfl)
  replace bt9 := e _ bt9 (P0.ne 18 8 rfl rfl rfl) (P0.ne 18 7 rfl rfl rfl) (P0.ne 18 22 rfl rfl rfl)
  replace bld := e _ bld (P0.ne 19 8 rfl rfl rfl) (P0.ne 19 7 rfl rfl rfl) (P0.ne 19 22 rfl rfl rfl)
  replace odob := e _ odob (P0.ne 20 8 rfl rfl rfl) (P0.ne 20 7 rfl rfl rfl) (P0.ne 20 22 rfl rfl rfl)
  replace oob := e _ oob (P0.ne 21 8 rfl rfl rfl) (P0.ne 21 7 rfl rfl rfl) (P0.ne 21 22 rfl rfl rfl)
  replace orw := e _ orw (P0.ne 23 8 rfl rfl rfl) (P0.ne 23 7 rfl rfl rfl) (P0.ne 23 22 rfl rfl rfl)
  refine exs (i := 5) (by rw [hlen]; decide) fun st hst => ?_
  refine law_5 hlk hst B F N X T hdp hu a2 d2 bM bdM hom a3 d3 oob odob hO orw bcpu bdc hoc brows a4 c4 (by omega) (Nat.le_of_ble_eq_true rfl) (A0.lt 3 9 rfl rfl rfl) (A0.lt 9 10 rfl rfl rfl) (A0.lt 10 14 rfl rfl rfl) (A0.lt 14 15 rfl rfl rfl) (A0.lt 15 17 rfl rfl rfl) (A0.lt 17 20 rfl rfl rfl) (A0.lt 20 21 rfl rfl rfl) (A0.lt 21 23 rfl rfl rfl) ?_
  intro h2 tk2 led2 n5 tb k4 F N e brows a4 c4
  dsimp only
  replace a1 := e _ a1 (P0.ne 0 17 rfl rfl rfl) (P0.ne 0 3 rfl rfl rfl)
  replace a2 := e _ a2 (P0.ne 1 17 rfl rfl rfl) (P0.ne 1 3 rfl rfl rfl)
  replace a3 := e _ a3 (P0.ne 2 17 rfl rfl rfl) (P0.ne 2 3 rfl rfl rfl)
  replace a5 := e _ a5 (P0.ne 4 17 rfl rfl rfl) (P0.ne 4 3 rfl rfl rfl)
  replace a6 := e _ a6 (P0.ne 5 17 rfl rfl rfl) (P0.ne 5 3 rfl rfl rfl)
  replace a7 := e _ a7 (P0.ne 6 17 rfl rfl rfl) (P0.ne 6 3 rfl rfl rfl)
  replace s2 := e _ s2 (P0.ne 7 17 rfl rfl rfl) (P0.ne 7 3 rfl rfl rfl)
  replace s1 := e _ s1 (P0.ne 8 17 rfl rfl rfl) (P0.ne 8 3 rfl rfl rfl)
  replace bdM := e _ bdM (P0.ne 9 17 rfl rfl rfl) (P0.ne 9 3 rfl rfl rfl)
  replace bM := e _ bM (P0.ne 10 17 rfl rfl rfl) (P0.ne 10 3 rfl rfl rfl)
  replace bdm := e _ bdm (P0.ne 11 17 rfl rfl rfl) (P0.ne 11 3 rfl rfl rfl)
  replace bmem := e _ bmem (P0.ne 12 17 rfl rfl rfl) (P0.ne 12 3 rfl rfl rfl)
  replace bwd := e _ bwd (P0.ne 13 17 rfl rfl rfl) (P0.ne 13 3 rfl rfl rfl)
  replace bdc := e _ bdc (P0.ne 14 17 rfl rfl rfl) (P0.ne 14 3 rfl rfl rfl)
  replace bcpu := e _ bcpu (P0.ne 15 17 rfl rfl rfl) (P0.ne 15 3 rfl rfl rfl)
  replace brg := e _ brg (P0.ne 16 17 rfl rfl rfl) (P0.ne 16 3 rfl rfl rfl)
  replace bt9 := e _ bt9 (P0.ne 18 17 rfl rfl rfl) (P0.ne 18 3 rfl rfl rfl)
  replace bld := e _ bld (P0.ne 19 17 rfl rfl rfl) (P0.ne 19 3 rfl rfl rfl)
  replace odob := e _ odob (P0.ne 20 17 rfl rfl rfl) (P0.ne 20 3 rfl rfl rfl)
  replace oob := e _ oob (P0.ne 21 17 rfl rfl rfl) (P0.ne 21 3 rfl rfl rfl)
  replace omp := e _ omp (P0.ne 22 17 rfl rfl rfl) (P0.ne 22 3 rfl rfl rfl)
  replace orw := e _ orw (P0.ne 23 17 rfl rfl rfl) (P0.ne 23 3 rfl rfl rfl)
  replace hmaps := hmaps.tr fun x o hx hq => ⟨e _ hx (hq _ zbrows).symm (hq _ za4).symm, hq⟩
  replace c4 : k4.data = .cell (some (.int 1 tb)) := c4
  have bld0 := bld
  have bdM0 := bdM
  refine exs (i := 6) (by rw [hlen]; decide) fun st hst => ?_
  refine law_6 hlk hst B F N X T hdp hu a2 d2 bM bdM hom a3 d3 oob odob hO orw bld a4 c4 (A0.lt 3 9 rfl rfl rfl) (A0.lt 9 10 rfl rfl rfl) (A0.lt 10 19 rfl rfl rfl) (A0.lt 19 20 rfl rfl rfl) (A0.lt 20 21 rfl rfl rfl) ?_
  intro h3 tk3 led3 n6 la dla ol om F N e bld bdM hom gla gdla hL fr frl
  dsimp only
  have P1 := (P0.snoc (b := dla) (by simp only [List.forall_mem_cons]; exact ⟨Nat.ne_of_lt (fr _ a1), Nat.ne_of_lt (fr _ a2), Nat.ne_of_lt (fr _ a3), Nat.ne_of_lt (fr _ a4), Nat.ne_of_lt (fr _ a5), Nat.ne_of_lt (fr _ a6), Nat.ne_of_lt (fr _ a7), Nat.ne_of_lt (fr _ s2), Nat.ne_of_lt (fr _ s1), Nat.ne_of_lt (fr _ bdM0), Nat.ne_of_lt (fr _ bM), Nat.ne_of_lt (fr _ bdm), Nat.ne_of_lt (fr _ bmem), Nat.ne_of_lt (fr _ bwd), Nat.ne_of_lt (fr _ bdc), Nat.ne_of_lt (fr _ bcpu), Nat.ne_of_lt (fr _ brg), Nat.ne_of_lt (fr _ brows), Nat.ne_of_lt (fr _ bt9), Nat.ne_of_lt (fr _ bld0), Nat.ne_of_lt (fr _ odob), Nat.ne_of_lt (fr _ oob), Nat.ne_of_lt (fr _ omp), Nat.ne_of_lt (fr _ orw), fun _ h => nomatch h⟩)).snoc (b := la) (by simp only [List.forall_mem_append, List.forall_mem_cons]; exact ⟨⟨Nat.ne_of_lt (Nat.lt_trans (fr _ a1) frl), Nat.ne_of_lt (Nat.lt_trans (fr _ a2) frl), Nat.ne_of_lt (Nat.lt_trans (fr _ a3) frl), Nat.ne_of_lt (Nat.lt_trans (fr _ a4) frl), Nat.ne_of_lt (Nat.lt_trans (fr _ a5) frl), Nat.ne_of_lt (Nat.lt_trans (fr _ a6) frl), Nat.ne_of_lt (Nat.lt_trans (fr _ a7) frl), Nat.ne_of_lt (Nat.lt_trans (fr _ s2) frl), Nat.ne_of_lt (Nat.lt_trans (fr _ s1) frl), Nat.ne_of_lt (Nat.lt_trans (fr _ bdM0) frl), Nat.ne_of_lt (Nat.lt_trans (fr _ bM) frl), Nat.ne_of_lt (Nat.lt_trans (fr _ bdm) frl), Nat.ne_of_lt (Nat.lt_trans (fr _ bmem) frl), Nat.ne_of_lt (Nat.lt_trans (fr _ bwd) frl), Nat.ne_of_lt (Nat.lt_trans (fr _ bdc) frl), Nat.ne_of_lt (Nat.lt_trans (fr _ bcpu) frl), Nat.ne_of_lt (Nat.lt_trans (fr _ brg) frl), Nat.ne_of_lt (Nat.lt_trans (fr _ brows) frl), Nat.ne_of_lt (Nat.lt_trans (fr _ bt9) frl), Nat.ne_of_lt (Nat.lt_trans (fr _ bld0) frl), Nat.ne_of_lt (Nat.lt_trans (fr _ odob) frl), Nat.ne_of_lt (Nat.lt_trans (fr _ oob) frl), Nat.ne_of_lt (Nat.lt_trans (fr _ omp) frl), Nat.ne_of_lt (Nat.lt_trans (fr _ orw) frl), fun _ h => nomatch h⟩, Nat.ne_of_lt frl, fun _ h => nomatch h⟩)
  replace a1 := e _ a1 (P0.ne 0 9 rfl rfl rfl) (P0.ne 0 19 rfl rfl rfl)
  replace a2 := e _ a2 (P0.ne 1 9 rfl rfl rfl) (P0.ne 1 19 rfl rfl rfl)
  replace a3 := e _ a3 (P0.ne 2 9 rfl rfl rfl) (P0.ne 2 19 rfl rfl rfl)
  replace a4 := e _ a4 (P0.ne 3 9 rfl rfl rfl) (P0.ne 3 19 rfl rfl rfl)
  replace a5 := e _ a5 (P0.ne 4 9 rfl rfl rfl) (P0.ne 4 19 rfl rfl rfl)
  replace a6 := e _ a6 (P0.ne 5 9 rfl rfl rfl) (P0.ne 5 19 rfl rfl rfl)
  replace a7 := e _ a7 (P0.ne 6 9 rfl rfl rfl) (P0.ne 6 19 rfl rfl rfl)
  replace s2 := e _ s2 (P0.ne 7 9 rfl rfl rfl) (P0.ne 7 19 rfl rfl rfl)
  replace s1 := e _ s1 (P0.ne 8 9 rfl rfl rfl) (P0.ne 8 19 rfl rfl rfl)
  replace bM := e _ bM (P0.ne 10 9 rfl rfl rfl) (P0.ne 10 19 rfl rfl rfl)
  replace bdm := e _ bdm (P0.ne 11 9 rfl rfl rfl) (P0.ne 11 19 rfl rfl rfl)
  replace bmem := e _ bmem (P0.ne 12 9 rfl rfl rfl) (P0.ne 12 19 rfl rfl rfl)
  replace bwd := e _ bwd (P0.ne 13 9 rfl rfl rfl) (P0.ne 13 19 rfl rfl rfl)
  replace bdc := e _ bdc (P0.ne 14 9 rfl rfl rfl) (P0.ne 14 19 rfl rfl rfl)
  replace bcpu := e _ bcpu (P0.ne 15 9 rfl rfl rfl) (P0.ne 15 19 rfl rfl rfl)
  replace brg := e _ brg (P0.ne 16 9 rfl rfl rfl) (P0.ne 16 19 rfl rfl rfl)
  replace brows := e _ brows (P0.ne 17 9 rfl rfl rfl) (P0.ne 17 19 rfl rfl rfl)
  replace bt9 := e _ bt9 (P0.ne 18 9 rfl rfl rfl) (P0.ne 18 19 rfl rfl rfl)
  replace odob := e _ odob (P0.ne 20 9 rfl rfl rfl) (P0.ne 20 19 rfl rfl rfl)
  replace oob := e _ oob (P0.ne 21 9 rfl rfl rfl) (P0.ne 21 19 rfl rfl rfl)
  replace omp := e _ omp (P0.ne 22 9 rfl rfl rfl) (P0.ne 22 19 rfl rfl rfl)
  replace orw := e _ orw (P0.ne 23 9 rfl rfl rfl) (P0.ne 23 19 rfl rfl rfl)
  replace hmaps := hmaps.tr fun x o hx hq => ⟨e _ hx (hq _ zbdM).symm (hq _ zbld).symm, hq⟩
  refine exs (i := 7) (by rw [hlen]; decide) fun st hst => ?_
  refine law_7 hlk hst B F N X T hdp hu s1 s2 hS hls a1 d1 a5 c5 (A0.lt 4 7 rfl rfl rfl) ?_
  intro h4 tk4 led4 so lo k5 tc n F N e s1 s2 hS a5 c5 hn0 hn
  dsimp only
  replace a1 := e _ a1 (P1.ne 0 8 rfl rfl rfl) (P1.ne 0 7 rfl rfl rfl) (P1.ne 0 4 rfl rfl rfl)
  replace a2 := e _ a2 (P1.ne 1 8 rfl rfl rfl) (P1.ne 1 7 rfl rfl rfl) (P1.ne 1 4 rfl rfl rfl)
  replace a3 := e _ a3 (P1.ne 2 8 rfl rfl rfl) (P1.ne 2 7 rfl rfl rfl) (P1.ne 2 4 rfl rfl rfl)
  replace a4 := e _ a4 (P1.ne 3 8 rfl rfl rfl) (P1.ne 3 7 rfl rfl rfl) (P1.ne 3 4 rfl rfl rfl)
  replace a6 := e _ a6 (P1.ne 5 8 rfl rfl rfl) (P1.ne 5 7 rfl rfl rfl) (P1.ne 5 4 rfl rfl rfl)
  replace a7 := e _ a7 (P1.ne 6 8 rfl rfl rfl) (P1.ne 6 7 rfl rfl rfl) (P1.ne 6 4 rfl rfl rfl)
  replace bdM := e _ bdM (P1.ne 9 8 rfl rfl rfl) (P1.ne 9 7 rfl rfl rfl) (P1.ne 9 4 rfl rfl rfl)
  replace bM := e _ bM (P1.ne 10 8 rfl rfl rfl) (P1.ne 10 7 rfl rfl rfl) (P1.ne 10 4 rfl rfl rfl)
  replace bdm := e _ bdm (P1.ne 11 8 rfl rfl rfl) (P1.ne 11 7 rfl rfl rfl) (P1.ne 11 4 rfl rfl rfl)
  replace bmem := e _ bmem (P1.ne 12 8 rfl rfl rfl) (P1.ne 12 7 rfl rfl rfl) (P1.ne 12 4 rfl rfl rfl)
  replace bwd := e _ bwd (P1.ne 13 8 rfl rfl rfl) (P1.ne 13 7 rfl rfl rfl) (P1.ne 13 4 rfl rfl rfl)
  replace bdc := e _ bdc (P1.ne 14 8 rfl rfl rfl) (P1.ne 14 7 rfl rfl rfl) (P1.ne 14 4 rfl rfl rfl)
  replace bcpu := e _ bcpu (P1.ne 15 8 rfl rfl rfl) (P1.ne 15 7 rfl rfl rfl) (P1.ne 15 4 rfl rfl rfl)
  replace brg := e _ brg (P1.ne 16 8 rfl rfl rfl) (P1.ne 16 7 rfl rfl rfl) (P1.ne 16 4 rfl rfl rfl)
  replace brows := e _ brows (P1.ne 17 8 rfl rfl rfl) (P1.ne 17 7 rfl rfl rfl) (P1.ne 17 4 rfl rfl rfl)
  replace bt9 := e _ bt9 (P1.ne 18 8 rfl rfl rfl) (P1.ne 18 7 rfl rfl rfl) (P1.ne 18 4 rfl rfl rfl)
  replace bld := e _ bld (P1.ne 19 8 rfl rfl rfl) (P1.ne 19 7 rfl rfl rfl) (P1.ne 19 4 rfl rfl rfl)
  replace odob := e _ odob (P1.ne 20 8 rfl rfl rfl) (P1.ne 20 7 rfl rfl rfl) (P1.ne 20 4 rfl rfl rfl)
  replace oob := e _ oob (P1.ne 21 8 rfl rfl rfl) (P1.ne 21 7 rfl rfl rfl) (P1.ne 21 4 rfl rfl rfl)
  replace omp := e _ omp (P1.ne 22 8 rfl rfl rfl) (P1.ne 22 7 rfl rfl rfl) (P1.ne 22 4 rfl rfl rfl)
  replace orw := e _ orw (P1.ne 23 8 rfl rfl rfl) (P1.ne 23 7 rfl rfl rfl) (P1.ne 23 4 rfl rfl rfl)
  replace gdla := e _ gdla (P1.ne 24 8 rfl rfl rfl) (P1.ne 24 7 rfl rfl rfl) (P1.ne 24 4 rfl rfl rfl)
  replace gla := e _ gla (P1.ne 25 8 rfl rfl rfl) (P1.ne 25 7 rfl rfl rfl) (P1.ne 25 4 rfl rfl rfl)
  replace hmaps := hmaps.tr fun x o hx hq => ⟨e _ hx (hq _ zs1).symm (hq _ zs2).symm (hq _ za5).symm, hq⟩
  have a7o := a7
  refine exs (i := 8) (by rw [hlen]; decide) fun st hst => ?_
  refine law_p hlk hst B F N X T hdp hu a2 d2 a5 c5 a7 c7 bM bdM hom bmem bdm hmem (by omega) ?_
  intro h5 tk5 led5 pl pv nP k7 F N e off gpl a7 c7 hpv
  dsimp only
  have P2 := P1.snoc (b := pl) (by simp only [List.forall_mem_append, List.forall_mem_cons]; exact ⟨⟨⟨off _ a1, off _ a2, off _ a3, off _ a4, off _ a5, off _ a6, off _ a7o, off _ s2, off _ s1, off _ bdM, off _ bM, off _ bdm, off _ bmem, off _ bwd, off _ bdc, off _ bcpu, off _ brg, off _ brows, off _ bt9, off _ bld, off _ odob, off _ oob, off _ omp, off _ orw, fun _ h => nomatch h⟩, off _ gdla, fun _ h => nomatch h⟩, off _ gla, fun _ h => nomatch h⟩)
  replace a1 := e _ a1 (P1.ne 0 6 rfl rfl rfl)
  replace a2 := e _ a2 (P1.ne 1 6 rfl rfl rfl)
  replace a3 := e _ a3 (P1.ne 2 6 rfl rfl rfl)
  replace a4 := e _ a4 (P1.ne 3 6 rfl rfl rfl)
  replace a5 := e _ a5 (P1.ne 4 6 rfl rfl rfl)
  replace a6 := e _ a6 (P1.ne 5 6 rfl rfl rfl)
  replace s2 := e _ s2 (P1.ne 7 6 rfl rfl rfl)
  replace s1 := e _ s1 (P1.ne 8 6 rfl rfl rfl)
  replace bdM := e _ bdM (P1.ne 9 6 rfl rfl rfl)
  replace bM := e _ bM (P1.ne 10 6 rfl rfl rfl)
  replace bdm := e _ bdm (P1.ne 11 6 rfl rfl rfl)
  replace bmem := e _ bmem (P1.ne 12 6 rfl rfl rfl)
  replace bwd := e _ bwd (P1.ne 13 6 rfl rfl rfl)
  replace bdc := e _ bdc (P1.ne 14 6 rfl rfl rfl)
  replace bcpu := e _ bcpu (P1.ne 15 6 rfl rfl rfl)
  replace brg := e _ brg (P1.ne 16 6 rfl rfl rfl)
  replace brows := e _ brows (P1.ne 17 6 rfl rfl rfl)
  replace bt9 := e _ bt9 (P1.ne 18 6 rfl rfl rfl)
  replace bld := e _ bld (P1.ne 19 6 rfl rfl rfl)
  replace odob := e _ odob (P1.ne 20 6 rfl rfl rfl)
  replace oob := e _ oob (P1.ne 21 6 rfl rfl rfl)
  replace omp := e _ omp (P1.ne 22 6 rfl rfl rfl)
  replace orw := e _ orw (P1.ne 23 6 rfl rfl rfl)
  replace gdla := e _ gdla (P1.ne 24 6 rfl rfl rfl)
  replace gla := e _ gla (P1.ne 25 6 rfl rfl rfl)
  replace hmaps := hmaps.tr fun x o hx hq => ⟨e _ hx (hq _ za7).symm, hq⟩
  have s1o := s1
  have s2o := s2
  have hr1 : 0 < rv.length := by omega
  refine exs (i := 9) (by rw [hlen]; decide) fun st hst => ?_
  refine law_r hlk hst B F N X T hdp hu a1 d1 a3 d3 a4 c4 a5 c5 (by omega) s1 s2 hS hls oob odob hO orw hr1 (by omega) (A0.lt 6 7 rfl rfl rfl) (A0.lt 8 20 rfl rfl rfl) (A0.lt 20 21 rfl rfl rfl) (A0.lt 21 23 rfl rfl rfl) ?_
  intro h6 tk6 led6 ra yv nR so lo rl F N e off gra s1 s2 hS hyv hrl hr9
  dsimp only
  have P3 := P2.snoc (b := ra) (by simp only [List.forall_mem_append, List.forall_mem_cons]; exact ⟨⟨⟨⟨off _ a1, off _ a2, off _ a3, off _ a4, off _ a5, off _ a6, off _ a7, off _ s2o, off _ s1o, off _ bdM, off _ bM, off _ bdm, off _ bmem, off _ bwd, off _ bdc, off _ bcpu, off _ brg, off _ brows, off _ bt9, off _ bld, off _ odob, off _ oob, off _ omp, off _ orw, fun _ h => nomatch h⟩, off _ gdla, fun _ h => nomatch h⟩, off _ gla, fun _ h => nomatch h⟩, off _ gpl, fun _ h => nomatch h⟩)
  replace a1 := e _ a1 (P2.ne 0 8 rfl rfl rfl) (P2.ne 0 7 rfl rfl rfl)
  replace a2 := e _ a2 (P2.ne 1 8 rfl rfl rfl) (P2.ne 1 7 rfl rfl rfl)
  replace a3 := e _ a3 (P2.ne 2 8 rfl rfl rfl) (P2.ne 2 7 rfl rfl rfl)
  replace a4 := e _ a4 (P2.ne 3 8 rfl rfl rfl) (P2.ne 3 7 rfl rfl rfl)
  replace a5 := e _ a5 (P2.ne 4 8 rfl rfl rfl) (P2.ne 4 7 rfl rfl rfl)
  replace a6 := e _ a6 (P2.ne 5 8 rfl rfl rfl) (P2.ne 5 7 rfl rfl rfl)
  replace a7 := e _ a7 (P2.ne 6 8 rfl rfl rfl) (P2.ne 6 7 rfl rfl rfl)
  replace bdM := e _ bdM (P2.ne 9 8 rfl rfl rfl) (P2.ne 9 7 rfl rfl rfl)
  replace bM := e _ bM (P2.ne 10 8 rfl rfl rfl) (P2.ne 10 7 rfl rfl rfl)
  replace bdm := e _ bdm (P2.ne 11 8 rfl rfl rfl) (P2.ne 11 7 rfl rfl rfl)
  replace bmem := e _ bmem (P2.ne 12 8 rfl rfl rfl) (P2.ne 12 7 rfl rfl rfl)
  replace bwd := e _ bwd (P2.ne 13 8 rfl rfl rfl) (P2.ne 13 7 rfl rfl rfl)
  replace bdc := e _ bdc (P2.ne 14 8 rfl rfl rfl) (P2.ne 14 7 rfl rfl rfl)
  replace bcpu := e _ bcpu (P2.ne 15 8 rfl rfl rfl) (P2.ne 15 7 rfl rfl rfl)
  replace brg := e _ brg (P2.ne 16 8 rfl rfl rfl) (P2.ne 16 7 rfl rfl rfl)
  replace brows := e _ brows (P2.ne 17 8 rfl rfl rfl) (P2.ne 17 7 rfl rfl rfl)
  replace bt9 := e _ bt9 (P2.ne 18 8 rfl rfl rfl) (P2.ne 18 7 rfl rfl rfl)
  replace bld := e _ bld (P2.ne 19 8 rfl rfl rfl) (P2.ne 19 7 rfl rfl rfl)
  replace odob := e _ odob (P2.ne 20 8 rfl rfl rfl) (P2.ne 20 7 rfl rfl rfl)
  replace oob := e _ oob (P2.ne 21 8 rfl rfl rfl) (P2.ne 21 7 rfl rfl rfl)
  replace omp := e _ omp (P2.ne 22 8 rfl rfl rfl) (P2.ne 22 7 rfl rfl rfl)
  replace orw := e _ orw (P2.ne 23 8 rfl rfl rfl) (P2.ne 23 7 rfl rfl rfl)
  replace gdla := e _ gdla (P2.ne 24 8 rfl rfl rfl) (P2.ne 24 7 rfl rfl rfl)
  replace gla := e _ gla (P2.ne 25 8 rfl rfl rfl) (P2.ne 25 7 rfl rfl rfl)
  replace gpl := e _ gpl (P2.ne 26 8 rfl rfl rfl) (P2.ne 26 7 rfl rfl rfl)
  replace hmaps := hmaps.tr fun x o hx hq => ⟨e _ hx (hq _ zs1).symm (hq _ zs2).symm, hq⟩
  refine exs (i := 10) (by rw [hlen]; decide) fun st hst => ?_
  refine law_10 hlk hst B F N X T hdp hu s1 s2 hS hls a1 d1 a5 c5 hn0 hn (A0.lt 4 7 rfl rfl rfl) ?_
  intro h7 tk7 led7 so lo tkb bk F N e s1 s2 hS hbk
  dsimp only
  replace a1 := e _ a1 (P3.ne 0 8 rfl rfl rfl) (P3.ne 0 7 rfl rfl rfl)
  replace a2 := e _ a2 (P3.ne 1 8 rfl rfl rfl) (P3.ne 1 7 rfl rfl rfl)
  replace a3 := e _ a3 (P3.ne 2 8 rfl rfl rfl) (P3.ne 2 7 rfl rfl rfl)
  replace a4 := e _ a4 (P3.ne 3 8 rfl rfl rfl) (P3.ne 3 7 rfl rfl rfl)
  replace a5 := e _ a5 (P3.ne 4 8 rfl rfl rfl) (P3.ne 4 7 rfl rfl rfl)
  replace a6 := e _ a6 (P3.ne 5 8 rfl rfl rfl) (P3.ne 5 7 rfl rfl rfl)
  replace a7 := e _ a7 (P3.ne 6 8 rfl rfl rfl) (P3.ne 6 7 rfl rfl rfl)
  replace bdM := e _ bdM (P3.ne 9 8 rfl rfl rfl) (P3.ne 9 7 rfl rfl rfl)
  replace bM := e _ bM (P3.ne 10 8 rfl rfl rfl) (P3.ne 10 7 rfl rfl rfl)
  replace bdm := e _ bdm (P3.ne 11 8 rfl rfl rfl) (P3.ne 11 7 rfl rfl rfl)
  replace bmem := e _ bmem (P3.ne 12 8 rfl rfl rfl) (P3.ne 12 7 rfl rfl rfl)
  replace bwd := e _ bwd (P3.ne 13 8 rfl rfl rfl) (P3.ne 13 7 rfl rfl rfl)
  replace bdc := e _ bdc (P3.ne 14 8 rfl rfl rfl) (P3.ne 14 7 rfl rfl rfl)
  replace bcpu := e _ bcpu (P3.ne 15 8 rfl rfl rfl) (P3.ne 15 7 rfl rfl rfl)
  replace brg := e _ brg (P3.ne 16 8 rfl rfl rfl) (P3.ne 16 7 rfl rfl rfl)
  replace brows := e _ brows (P3.ne 17 8 rfl rfl rfl) (P3.ne 17 7 rfl rfl rfl)
  replace bt9 := e _ bt9 (P3.ne 18 8 rfl rfl rfl) (P3.ne 18 7 rfl rfl rfl)
  replace bld := e _ bld (P3.ne 19 8 rfl rfl rfl) (P3.ne 19 7 rfl rfl rfl)
  replace odob := e _ odob (P3.ne 20 8 rfl rfl rfl) (P3.ne 20 7 rfl rfl rfl)
  replace oob := e _ oob (P3.ne 21 8 rfl rfl rfl) (P3.ne 21 7 rfl rfl rfl)
  replace omp := e _ omp (P3.ne 22 8 rfl rfl rfl) (P3.ne 22 7 rfl rfl rfl)
  replace orw := e _ orw (P3.ne 23 8 rfl rfl rfl) (P3.ne 23 7 rfl rfl rfl)
  replace gdla := e _ gdla (P3.ne 24 8 rfl rfl rfl) (P3.ne 24 7 rfl rfl rfl)
  replace gla := e _ gla (P3.ne 25 8 rfl rfl rfl) (P3.ne 25 7 rfl rfl rfl)
  replace gpl := e _ gpl (P3.ne 26 8 rfl rfl rfl) (P3.ne 26 7 rfl rfl rfl)
  replace gra := e _ gra (P3.ne 27 8 rfl rfl rfl) (P3.ne 27 7 rfl rfl rfl)
  replace hmaps := hmaps.tr fun x o hx hq => ⟨e _ hx (hq _ zs1).symm (hq _ zs2).symm, hq⟩
  refine exs (i := 11) (by rw [hlen]; decide) fun st hst => ?_
  refine law_11 hlk hst B F N X T hdp hu ?_
  intro h8 tk8 wa F N fr
  dsimp only
  have P4 := P3.snoc (b := wa) (by simp only [List.forall_mem_append, List.forall_mem_cons]; exact ⟨⟨⟨⟨⟨Nat.ne_of_lt (fr _ a1), Nat.ne_of_lt (fr _ a2), Nat.ne_of_lt (fr _ a3), Nat.ne_of_lt (fr _ a4), Nat.ne_of_lt (fr _ a5), Nat.ne_of_lt (fr _ a6), Nat.ne_of_lt (fr _ a7), Nat.ne_of_lt (fr _ s2), Nat.ne_of_lt (fr _ s1), Nat.ne_of_lt (fr _ bdM), Nat.ne_of_lt (fr _ bM), Nat.ne_of_lt (fr _ bdm), Nat.ne_of_lt (fr _ bmem), Nat.ne_of_lt (fr _ bwd), Nat.ne_of_lt (fr _ bdc), Nat.ne_of_lt (fr _ bcpu), Nat.ne_of_lt (fr _ brg), Nat.ne_of_lt (fr _ brows), Nat.ne_of_lt (fr _ bt9), Nat.ne_of_lt (fr _ bld), Nat.ne_of_lt (fr _ odob), Nat.ne_of_lt (fr _ oob), Nat.ne_of_lt (fr _ omp), Nat.ne_of_lt (fr _ orw), fun _ h => nomatch h⟩, Nat.ne_of_lt (fr _ gdla), fun _ h => nomatch h⟩, Nat.ne_of_lt (fr _ gla), fun _ h => nomatch h⟩, Nat.ne_of_lt (fr _ gpl), fun _ h => nomatch h⟩, Nat.ne_of_lt (fr _ gra), fun _ h => nomatch h⟩)
  replace hmaps : MapsAre w ((wa, kM) :: led0) ((wa, lisOf [] 0) :: led7) ompo ml := hmaps.tr fun x o hx hq => ⟨.tail _ hx, by simp only [List.forall_mem_cons]; exact ⟨Nat.ne_of_gt (fr _ hx), hq⟩⟩
  replace a1 : (_, _) ∈ (wa, lisOf [] 0) :: led7 := .tail _ a1
  replace a2 : (_, _) ∈ (wa, lisOf [] 0) :: led7 := .tail _ a2
  replace a3 : (_, _) ∈ (wa, lisOf [] 0) :: led7 := .tail _ a3
  replace a4 : (_, _) ∈ (wa, lisOf [] 0) :: led7 := .tail _ a4
  replace a5 : (_, _) ∈ (wa, lisOf [] 0) :: led7 := .tail _ a5
  replace a6 : (_, _) ∈ (wa, lisOf [] 0) :: led7 := .tail _ a6
  replace a7 : (_, _) ∈ (wa, lisOf [] 0) :: led7 := .tail _ a7
  replace s2 : (_, _) ∈ (wa, lisOf [] 0) :: led7 := .tail _ s2
  replace s1 : (_, _) ∈ (wa, lisOf [] 0) :: led7 := .tail _ s1
  replace bdM : (_, _) ∈ (wa, lisOf [] 0) :: led7 := .tail _ bdM
  replace bM : (_, _) ∈ (wa, lisOf [] 0) :: led7 := .tail _ bM
  replace bdm : (_, _) ∈ (wa, lisOf [] 0) :: led7 := .tail _ bdm
  replace bmem : (_, _) ∈ (wa, lisOf [] 0) :: led7 := .tail _ bmem
  replace bwd : (_, _) ∈ (wa, lisOf [] 0) :: led7 := .tail _ bwd
  replace bdc : (_, _) ∈ (wa, lisOf [] 0) :: led7 := .tail _ bdc
  replace bcpu : (_, _) ∈ (wa, lisOf [] 0) :: led7 := .tail _ bcpu
  replace brg : (_, _) ∈ (wa, lisOf [] 0) :: led7 := .tail _ brg
  replace brows : (_, _) ∈ (wa, lisOf [] 0) :: led7 := .tail _ brows
  replace bt9 : (_, _) ∈ (wa, lisOf [] 0) :: led7 := .tail _ bt9
  replace bld : (_, _) ∈ (wa, lisOf [] 0) :: led7 := .tail _ bld
  replace odob : (_, _) ∈ (wa, lisOf [] 0) :: led7 := .tail _ odob
  replace oob : (_, _) ∈ (wa, lisOf [] 0) :: led7 := .tail _ oob
  replace omp : (_, _) ∈ (wa, lisOf [] 0) :: led7 := .tail _ omp
  replace orw : (_, _) ∈ (wa, lisOf [] 0) :: led7 := .tail _ orw
  replace gdla : (_, _) ∈ (wa, lisOf [] 0) :: led7 := .tail _ gdla
  replace gla : (_, _) ∈ (wa, lisOf [] 0) :: led7 := .tail _ gla
  replace gpl : (_, _) ∈ (wa, lisOf [] 0) :: led7 := .tail _ gpl
  replace gra : (_, _) ∈ (wa, lisOf [] 0) :: led7 := .tail _ gra
  have gwa : (wa, lisOf [] 0) ∈ (wa, lisOf [] 0) :: led7 := .head _
  generalize hl8 : (wa, lisOf [] 0) :: led7 = led8 at *
  clear hl8
  have ya1 := a1
  have ya2 := a2
  have ya3 := a3
  have ya4 := a4
  have ya5 := a5
  have ya6 := a6
  have ya7 := a7
  have ys2 := s2
  have ys1 := s1
  have ybdM := bdM
  have ybM := bM
  have ybdm := bdm
  have ybmem := bmem
  have ybwd := bwd
  have ybdc := bdc
  have ybcpu := bcpu
  have ybrg := brg
  have ybrows := brows
  have ybt9 := bt9
  have ybld := bld
  have yodob := odob
  have yoob := oob
  have yomp := omp
  have yorw := orw
  have ygdla := gdla
  have ygla := gla
  have ygpl := gpl
  have ygra := gra
  have ygwa := gwa
  have hmo : ∀ l ∈ ml, ∀ o ∈ l, OffOk o := hmaps.off
  refine exs (i := 12) (by rw [hlen]; decide) fun st hst => ?_
  refine law_d hlk hst B F N X T hdp hu hls P4 a1 d1 a2 d2 a3 d3 a4 c4 a5 c5 a6 c6 a7 c7 s1 s2 hS bM bdM hom bmem bdm hmem bwd hW (by omega) hwd gwa oob odob hO omp (hmaps.tr fun x o hx hq => ⟨hx, by simp only [List.forall_mem_cons] at hq ⊢; exact ⟨hq.2 _ zs1, hq.2 _ zs2, hq.2 _ zbwd, hq.1, hq.2 _ za6, fun _ h => nomatch h⟩⟩) gpl hpv gra hyv hrl (by rw [hml]; exact hr9) (by decide) (by omega) hn0 hn hbk hmo ?_
  intro h9 tk9 m9 led9 so lo ow k6 p6' wv nw c9 f9 wl u1 u2 F N e s1 s2 hS bwd hW hc9 gwa a6 c6 hwl hD hm9
  dsimp only
  replace a1 := e _ a1 (P4.ne 0 8 rfl rfl rfl) (P4.ne 0 7 rfl rfl rfl) (P4.ne 0 13 rfl rfl rfl) (P4.ne 0 28 rfl rfl rfl) (P4.ne 0 5 rfl rfl rfl)
  replace a2 := e _ a2 (P4.ne 1 8 rfl rfl rfl) (P4.ne 1 7 rfl rfl rfl) (P4.ne 1 13 rfl rfl rfl) (P4.ne 1 28 rfl rfl rfl) (P4.ne 1 5 rfl rfl rfl)
  replace a3 := e _ a3 (P4.ne 2 8 rfl rfl rfl) (P4.ne 2 7 rfl rfl rfl) (P4.ne 2 13 rfl rfl rfl) (P4.ne 2 28 rfl rfl rfl) (P4.ne 2 5 rfl rfl rfl)
  replace a4 := e _ a4 (P4.ne 3 8 rfl rfl rfl) (P4.ne 3 7 rfl rfl rfl) (P4.ne 3 13 rfl rfl rfl) (P4.ne 3 28 rfl rfl rfl) (P4.ne 3 5 rfl rfl rfl)
  replace a5 := e _ a5 (P4.ne 4 8 rfl rfl rfl) (P4.ne 4 7 rfl rfl rfl) (P4.ne 4 13 rfl rfl rfl) (P4.ne 4 28 rfl rfl rfl) (P4.ne 4 5 rfl rfl rfl)
  replace a7 := e _ a7 (P4.ne 6 8 rfl rfl rfl) (P4.ne 6 7 rfl rfl rfl) (P4.ne 6 13 rfl rfl rfl) (P4.ne 6 28 rfl rfl rfl) (P4.ne 6 5 rfl rfl rfl)
  replace bdM := e _ bdM (P4.ne 9 8 rfl rfl rfl) (P4.ne 9 7 rfl rfl rfl) (P4.ne 9 13 rfl rfl rfl) (P4.ne 9 28 rfl rfl rfl) (P4.ne 9 5 rfl rfl rfl)
  replace bM := e _ bM (P4.ne 10 8 rfl rfl rfl) (P4.ne 10 7 rfl rfl rfl) (P4.ne 10 13 rfl rfl rfl) (P4.ne 10 28 rfl rfl rfl) (P4.ne 10 5 rfl rfl rfl)
  replace bdm := e _ bdm (P4.ne 11 8 rfl rfl rfl) (P4.ne 11 7 rfl rfl rfl) (P4.ne 11 13 rfl rfl rfl) (P4.ne 11 28 rfl rfl rfl) (P4.ne 11 5 rfl rfl rfl)
  replace bmem := e _ bmem (P4.ne 12 8 rfl rfl rfl) (P4.ne 12 7 rfl rfl rfl) (P4.ne 12 13 rfl rfl rfl) (P4.ne 12 28 rfl rfl rfl) (P4.ne 12 5 rfl rfl rfl)
  replace bdc := e _ bdc (P4.ne 14 8 rfl rfl rfl) (P4.ne 14 7 rfl rfl rfl) (P4.ne 14 13 rfl rfl rfl) (P4.ne 14 28 rfl rfl rfl) (P4.ne 14 5 rfl rfl rfl)
  replace bcpu := e _ bcpu (P4.ne 15 8 rfl rfl rfl) (P4.ne 15 7 rfl rfl rfl) (P4.ne 15 13 rfl rfl rfl) (P4.ne 15 28 rfl rfl rfl) (P4.ne 15 5 rfl rfl rfl)
  replace brg := e _ brg (P4.ne 16 8 rfl rfl rfl) (P4.ne 16 7 rfl rfl rfl) (P4.ne 16 13 rfl rfl rfl) (P4.ne 16 28 rfl rfl rfl) (P4.ne 16 5 rfl rfl rfl)
  replace brows := e _ brows (P4.ne 17 8 rfl rfl rfl) (P4.ne 17 7 rfl rfl rfl) (P4.ne 17 13 rfl rfl rfl) (P4.ne 17 28 rfl rfl rfl) (P4.ne 17 5 rfl rfl rfl)
  replace bt9 := e _ bt9 (P4.ne 18 8 rfl rfl rfl) (P4.ne 18 7 rfl rfl rfl) (P4.ne 18 13 rfl rfl rfl) (P4.ne 18 28 rfl rfl rfl) (P4.ne 18 5 rfl rfl rfl)
  replace bld := e _ bld (P4.ne 19 8 rfl rfl rfl) (P4.ne 19 7 rfl rfl rfl) (P4.ne 19 13 rfl rfl rfl) (P4.ne 19 28 rfl rfl rfl) (P4.ne 19 5 rfl rfl rfl)
  replace odob := e _ odob (P4.ne 20 8 rfl rfl rfl) (P4.ne 20 7 rfl rfl rfl) (P4.ne 20 13 rfl rfl rfl) (P4.ne 20 28 rfl rfl rfl) (P4.ne 20 5 rfl rfl rfl)
  replace oob := e _ oob (P4.ne 21 8 rfl rfl rfl) (P4.ne 21 7 rfl rfl rfl) (P4.ne 21 13 rfl rfl rfl) (P4.ne 21 28 rfl rfl rfl) (P4.ne 21 5 rfl rfl rfl)
  replace omp := e _ omp (P4.ne 22 8 rfl rfl rfl) (P4.ne 22 7 rfl rfl rfl) (P4.ne 22 13 rfl rfl rfl) (P4.ne 22 28 rfl rfl rfl) (P4.ne 22 5 rfl rfl rfl)
  replace orw := e _ orw (P4.ne 23 8 rfl rfl rfl) (P4.ne 23 7 rfl rfl rfl) (P4.ne 23 13 rfl rfl rfl) (P4.ne 23 28 rfl rfl rfl) (P4.ne 23 5 rfl rfl rfl)
  replace gdla := e _ gdla (P4.ne 24 8 rfl rfl rfl) (P4.ne 24 7 rfl rfl rfl) (P4.ne 24 13 rfl rfl rfl) (P4.ne 24 28 rfl rfl rfl) (P4.ne 24 5 rfl rfl rfl)
  replace gla := e _ gla (P4.ne 25 8 rfl rfl rfl) (P4.ne 25 7 rfl rfl rfl) (P4.ne 25 13 rfl rfl rfl) (P4.ne 25 28 rfl rfl rfl) (P4.ne 25 5 rfl rfl rfl)
  replace gpl := e _ gpl (P4.ne 26 8 rfl rfl rfl) (P4.ne 26 7 rfl rfl rfl) (P4.ne 26 13 rfl rfl rfl) (P4.ne 26 28 rfl rfl rfl) (P4.ne 26 5 rfl rfl rfl)
  replace gra := e _ gra (P4.ne 27 8 rfl rfl rfl) (P4.ne 27 7 rfl rfl rfl) (P4.ne 27 13 rfl rfl rfl) (P4.ne 27 28 rfl rfl rfl) (P4.ne 27 5 rfl rfl rfl)
  replace hmaps : MapsAre w ((wa, kM) :: led0) _ ompo ml := hmaps.tr fun x o hx hq => ⟨e _ hx (hq _ (.tail _ zs1)).symm (hq _ (.tail _ zs2)).symm (hq _ (.tail _ zbwd)).symm (hq _ (.head _)).symm (hq _ (.tail _ za6)).symm, hq⟩
  subst hm9
  have WW : Rws n bk 1 ml rl := ⟨hn0, hn, hbk, hrl, by rw [hml]; exact hr9, by decide, hmo⟩
  obtain ⟨r0, hr0, -, -, -, -⟩ := WW.row hn0
  obtain ⟨tr, hyr⟩ := ints_get hyv hr0
  obtain ⟨tp, hpr⟩ := ints_get hpv (places_get hn0)
  have hyl : yv.length ≤ 100000 := by rw [IntsAre.length hyv]; omega
  have hpl : pv.length ≤ 100000 := by rw [IntsAre.length hpv]; unfold placesL; rw [List.length_map, List.length_range]; omega
  refine exs (i := 13) (by rw [hlen]; decide) fun st hst => ?_
  refine law_13 hlk hst B F N X T hdp hu a2 d2 bM bdM hom bcpu bdc hoc gra hyr hyl (A0.lt 1 9 rfl rfl rfl) (A0.lt 9 10 rfl rfl rfl) (A0.lt 10 14 rfl rfl rfl) (A0.lt 14 15 rfl rfl rfl) (P4.ne 27 14 rfl rfl rfl) ?_
  intro h10 tk10 led10 occ F N e bdc hoc
  dsimp only
  replace a1 := e _ a1 (P4.ne 0 14 rfl rfl rfl)
  replace a2 := e _ a2 (P4.ne 1 14 rfl rfl rfl)
  replace a3 := e _ a3 (P4.ne 2 14 rfl rfl rfl)
  replace a4 := e _ a4 (P4.ne 3 14 rfl rfl rfl)
  replace a5 := e _ a5 (P4.ne 4 14 rfl rfl rfl)
  replace a6 := e _ a6 (P4.ne 5 14 rfl rfl rfl)
  replace a7 := e _ a7 (P4.ne 6 14 rfl rfl rfl)
  replace s2 := e _ s2 (P4.ne 7 14 rfl rfl rfl)
  replace s1 := e _ s1 (P4.ne 8 14 rfl rfl rfl)
  replace bdM := e _ bdM (P4.ne 9 14 rfl rfl rfl)
  replace bM := e _ bM (P4.ne 10 14 rfl rfl rfl)
  replace bdm := e _ bdm (P4.ne 11 14 rfl rfl rfl)
  replace bmem := e _ bmem (P4.ne 12 14 rfl rfl rfl)
  replace bwd := e _ bwd (P4.ne 13 14 rfl rfl rfl)
  replace bcpu := e _ bcpu (P4.ne 15 14 rfl rfl rfl)
  replace brg := e _ brg (P4.ne 16 14 rfl rfl rfl)
  replace brows := e _ brows (P4.ne 17 14 rfl rfl rfl)
  replace bt9 := e _ bt9 (P4.ne 18 14 rfl rfl rfl)
  replace bld := e _ bld (P4.ne 19 14 rfl rfl rfl)
  replace odob := e _ odob (P4.ne 20 14 rfl rfl rfl)
  replace oob := e _ oob (P4.ne 21 14 rfl rfl rfl)
  replace omp := e _ omp (P4.ne 22 14 rfl rfl rfl)
  replace orw := e _ orw (P4.ne 23 14 rfl rfl rfl)
  replace gdla := e _ gdla (P4.ne 24 14 rfl rfl rfl)
  replace gla := e _ gla (P4.ne 25 14 rfl rfl rfl)
  replace gpl := e _ gpl (P4.ne 26 14 rfl rfl rfl)
  replace gra := e _ gra (P4.ne 27 14 rfl rfl rfl)
  replace gwa := e _ gwa (P4.ne 28 14 rfl rfl rfl)
  replace hmaps : MapsAre w ((wa, kM) :: led0) _ ompo ml := hmaps.tr fun x o hx hq => ⟨e _ hx (hq _ (.tail _ zbdc)).symm, hq⟩
  replace hwl := hwl.tr fun x o hx hq => ⟨e _ hx (hq _ ybdc).symm, hq⟩
  refine exs (i := 14) (by rw [hlen]; decide) fun st hst => ?_
  refine law_14 hlk hst B F N X T hdp hu a2 d2 bM bdM hom bcpu bdc hoc a7 c7 gpl hpr hpl brg hrl16 (A0.lt 6 9 rfl rfl rfl) (A0.lt 9 10 rfl rfl rfl) (A0.lt 10 14 rfl rfl rfl) (A0.lt 14 15 rfl rfl rfl) (A0.lt 15 16 rfl rfl rfl) (P4.ne 26 16 rfl rfl rfl) ?_
  intro h11 tk11 led11 nr9 F N e brg
  dsimp only
  replace a1 := e _ a1 (P4.ne 0 16 rfl rfl rfl)
  replace a2 := e _ a2 (P4.ne 1 16 rfl rfl rfl)
  replace a3 := e _ a3 (P4.ne 2 16 rfl rfl rfl)
  replace a4 := e _ a4 (P4.ne 3 16 rfl rfl rfl)
  replace a5 := e _ a5 (P4.ne 4 16 rfl rfl rfl)
  replace a6 := e _ a6 (P4.ne 5 16 rfl rfl rfl)
  replace a7 := e _ a7 (P4.ne 6 16 rfl rfl rfl)
  replace s2 := e _ s2 (P4.ne 7 16 rfl rfl rfl)
  replace s1 := e _ s1 (P4.ne 8 16 rfl rfl rfl)
  replace bdM := e _ bdM (P4.ne 9 16 rfl rfl rfl)
  replace bM := e _ bM (P4.ne 10 16 rfl rfl rfl)
  replace bdm := e _ bdm (P4.ne 11 16 rfl rfl rfl)
  replace bmem := e _ bmem (P4.ne 12 16 rfl rfl rfl)
  replace bwd := e _ bwd (P4.ne 13 16 rfl rfl rfl)
  replace bdc := e _ bdc (P4.ne 14 16 rfl rfl rfl)
  replace bcpu := e _ bcpu (P4.ne 15 16 rfl rfl rfl)
  replace brows := e _ brows (P4.ne 17 16 rfl rfl rfl)
  replace bt9 := e _ bt9 (P4.ne 18 16 rfl rfl rfl)
  replace bld := e _ bld (P4.ne 19 16 rfl rfl rfl)
  replace odob := e _ odob (P4.ne 20 16 rfl rfl rfl)
  replace oob := e _ oob (P4.ne 21 16 rfl rfl rfl)
  replace omp := e _ omp (P4.ne 22 16 rfl rfl rfl)
  replace orw := e _ orw (P4.ne 23 16 rfl rfl rfl)
  replace gdla := e _ gdla (P4.ne 24 16 rfl rfl rfl)
  replace gla := e _ gla (P4.ne 25 16 rfl rfl rfl)
  replace gpl := e _ gpl (P4.ne 26 16 rfl rfl rfl)
  replace gra := e _ gra (P4.ne 27 16 rfl rfl rfl)
  replace gwa := e _ gwa (P4.ne 28 16 rfl rfl rfl)
  replace hmaps : MapsAre w ((wa, kM) :: led0) _ ompo ml := hmaps.tr fun x o hx hq => ⟨e _ hx (hq _ (.tail _ zbrg)).symm, hq⟩
  replace hwl := hwl.tr fun x o hx hq => ⟨e _ hx (hq _ ybrg).symm, hq⟩
  refine exs (i := 15) (by rw [hlen]; decide) fun st hst => ?_
  refine law_15 hlk hst B F N X T hdp hu ?_
  intro h12 tk12 da F N fr
  dsimp only
  have P5 := P4.snoc (b := da) (by simp only [List.forall_mem_append, List.forall_mem_cons]; exact ⟨⟨⟨⟨⟨⟨Nat.ne_of_lt (fr _ a1), Nat.ne_of_lt (fr _ a2), Nat.ne_of_lt (fr _ a3), Nat.ne_of_lt (fr _ a4), Nat.ne_of_lt (fr _ a5), Nat.ne_of_lt (fr _ a6), Nat.ne_of_lt (fr _ a7), Nat.ne_of_lt (fr _ s2), Nat.ne_of_lt (fr _ s1), Nat.ne_of_lt (fr _ bdM), Nat.ne_of_lt (fr _ bM), Nat.ne_of_lt (fr _ bdm), Nat.ne_of_lt (fr _ bmem), Nat.ne_of_lt (fr _ bwd), Nat.ne_of_lt (fr _ bdc), Nat.ne_of_lt (fr _ bcpu), Nat.ne_of_lt (fr _ brg), Nat.ne_of_lt (fr _ brows), Nat.ne_of_lt (fr _ bt9), Nat.ne_of_lt (fr _ bld), Nat.ne_of_lt (fr _ odob), Nat.ne_of_lt (fr _ oob), Nat.ne_of_lt (fr _ omp), Nat.ne_of_lt (fr _ orw), fun _ h => nomatch h⟩, Nat.ne_of_lt (fr _ gdla), fun _ h => nomatch h⟩, Nat.ne_of_lt (fr _ gla), fun _ h => nomatch h⟩, Nat.ne_of_lt (fr _ gpl), fun _ h => nomatch h⟩, Nat.ne_of_lt (fr _ gra), fun _ h => nomatch h⟩, Nat.ne_of_lt (fr _ gwa), fun _ h => nomatch h⟩)
  replace hmaps : MapsAre w ((da, kM) :: (wa, kM) :: led0) ((da, lisOf [] 0) :: led11) ompo ml := hmaps.tr fun x o hx hq => ⟨.tail _ hx, by rw [List.forall_mem_cons]; exact ⟨Nat.ne_of_gt (fr _ hx), hq⟩⟩
  replace hwl : WordsAre ((da, kM) :: led8) ((da, lisOf [] 0) :: led11) wv wl := hwl.tr fun x o hx hq => ⟨.tail _ hx, by rw [List.forall_mem_cons]; exact ⟨Nat.ne_of_gt (fr _ hx), hq⟩⟩
  replace a1 : (_, _) ∈ (da, lisOf [] 0) :: led11 := .tail _ a1
  replace a2 : (_, _) ∈ (da, lisOf [] 0) :: led11 := .tail _ a2
  replace a3 : (_, _) ∈ (da, lisOf [] 0) :: led11 := .tail _ a3
  replace a4 : (_, _) ∈ (da, lisOf [] 0) :: led11 := .tail _ a4
  replace a5 : (_, _) ∈ (da, lisOf [] 0) :: led11 := .tail _ a5
  replace a6 : (_, _) ∈ (da, lisOf [] 0) :: led11 := .tail _ a6
  replace a7 : (_, _) ∈ (da, lisOf [] 0) :: led11 := .tail _ a7
  replace s2 : (_, _) ∈ (da, lisOf [] 0) :: led11 := .tail _ s2
  replace s1 : (_, _) ∈ (da, lisOf [] 0) :: led11 := .tail _ s1
  replace bdM : (_, _) ∈ (da, lisOf [] 0) :: led11 := .tail _ bdM
  replace bM : (_, _) ∈ (da, lisOf [] 0) :: led11 := .tail _ bM
  replace bdm : (_, _) ∈ (da, lisOf [] 0) :: led11 := .tail _ bdm
  replace bmem : (_, _) ∈ (da, lisOf [] 0) :: led11 := .tail _ bmem
  replace bwd : (_, _) ∈ (da, lisOf [] 0) :: led11 := .tail _ bwd
  replace bdc : (_, _) ∈ (da, lisOf [] 0) :: led11 := .tail _ bdc
  replace bcpu : (_, _) ∈ (da, lisOf [] 0) :: led11 := .tail _ bcpu
  replace brg : (_, _) ∈ (da, lisOf [] 0) :: led11 := .tail _ brg
  replace brows : (_, _) ∈ (da, lisOf [] 0) :: led11 := .tail _ brows
  replace bt9 : (_, _) ∈ (da, lisOf [] 0) :: led11 := .tail _ bt9
  replace bld : (_, _) ∈ (da, lisOf [] 0) :: led11 := .tail _ bld
  replace odob : (_, _) ∈ (da, lisOf [] 0) :: led11 := .tail _ odob
  replace oob : (_, _) ∈ (da, lisOf [] 0) :: led11 := .tail _ oob
  replace omp : (_, _) ∈ (da, lisOf [] 0) :: led11 := .tail _ omp
  replace orw : (_, _) ∈ (da, lisOf [] 0) :: led11 := .tail _ orw
  replace gdla : (_, _) ∈ (da, lisOf [] 0) :: led11 := .tail _ gdla
  replace gla : (_, _) ∈ (da, lisOf [] 0) :: led11 := .tail _ gla
  replace gpl : (_, _) ∈ (da, lisOf [] 0) :: led11 := .tail _ gpl
  replace gra : (_, _) ∈ (da, lisOf [] 0) :: led11 := .tail _ gra
  replace gwa : (_, _) ∈ (da, lisOf [] 0) :: led11 := .tail _ gwa
  have gda : (da, lisOf [] 0) ∈ (da, lisOf [] 0) :: led11 := .head _
  generalize hl12 : (da, lisOf [] 0) :: led11 = led12 at *
  clear hl12
  refine exs (i := 16) (by rw [hlen]; decide) fun st hst => ?_
  refine law_16 hlk hst B F N X T hdp hu a6 c6 ?_
  intro h13 tk13 led13 k6 tq F N e a6 c6
  dsimp only
  replace a1 := e _ a1 (P5.ne 0 5 rfl rfl rfl)
  replace a2 := e _ a2 (P5.ne 1 5 rfl rfl rfl)
  replace a3 := e _ a3 (P5.ne 2 5 rfl rfl rfl)
  replace a4 := e _ a4 (P5.ne 3 5 rfl rfl rfl)
  replace a5 := e _ a5 (P5.ne 4 5 rfl rfl rfl)
  replace a7 := e _ a7 (P5.ne 6 5 rfl rfl rfl)
  replace s2 := e _ s2 (P5.ne 7 5 rfl rfl rfl)
  replace s1 := e _ s1 (P5.ne 8 5 rfl rfl rfl)
  replace bdM := e _ bdM (P5.ne 9 5 rfl rfl rfl)
  replace bM := e _ bM (P5.ne 10 5 rfl rfl rfl)
  replace bdm := e _ bdm (P5.ne 11 5 rfl rfl rfl)
  replace bmem := e _ bmem (P5.ne 12 5 rfl rfl rfl)
  replace bwd := e _ bwd (P5.ne 13 5 rfl rfl rfl)
  replace bdc := e _ bdc (P5.ne 14 5 rfl rfl rfl)
  replace bcpu := e _ bcpu (P5.ne 15 5 rfl rfl rfl)
  replace brg := e _ brg (P5.ne 16 5 rfl rfl rfl)
  replace brows := e _ brows (P5.ne 17 5 rfl rfl rfl)
  replace bt9 := e _ bt9 (P5.ne 18 5 rfl rfl rfl)
  replace bld := e _ bld (P5.ne 19 5 rfl rfl rfl)
  replace odob := e _ odob (P5.ne 20 5 rfl rfl rfl)
  replace oob := e _ oob (P5.ne 21 5 rfl rfl rfl)
  replace omp := e _ omp (P5.ne 22 5 rfl rfl rfl)
  replace orw := e _ orw (P5.ne 23 5 rfl rfl rfl)
  replace gdla := e _ gdla (P5.ne 24 5 rfl rfl rfl)
  replace gla := e _ gla (P5.ne 25 5 rfl rfl rfl)
  replace gpl := e _ gpl (P5.ne 26 5 rfl rfl rfl)
  replace gra := e _ gra (P5.ne 27 5 rfl rfl rfl)
  replace gwa := e _ gwa (P5.ne 28 5 rfl rfl rfl)
  replace gda := e _ gda (P5.ne 29 5 rfl rfl rfl)
  replace hmaps : MapsAre w ((da, kM) :: (wa, kM) :: led0) _ ompo ml := hmaps.tr fun x o hx hq => ⟨e _ hx (hq _ (.tail _ (.tail _ za6))).symm, hq⟩
  replace hwl : WordsAre ((da, kM) :: led8) _ wv wl := hwl.tr fun x o hx hq => ⟨e _ hx (hq _ (.tail _ ya6)).symm, hq⟩
  refine exs (i := 17) (by rw [hlen]; decide) fun st hst => ?_
  refine law_e (so := kM) hlk hst B F N X T hdp hu a2 d2 a5 c5 a6 c6 bM bdM hom bmem bdm hmem gwa gda (hwl.tr fun x o hx hq => ⟨hx, by simp only [List.forall_mem_cons]; exact ⟨hq _ (.head _), hq _ (.tail _ ya6), fun _ h => nomatch h⟩⟩) hD.h1 hn0 hn hbk (P5.ne 29 5 rfl rfl rfl) (by simp only [List.forall_mem_cons]; exact ⟨⟨(P5.ne 1 29 rfl rfl rfl), (P5.ne 1 5 rfl rfl rfl)⟩, ⟨(P5.ne 4 29 rfl rfl rfl), (P5.ne 4 5 rfl rfl rfl)⟩, ⟨(P5.ne 10 29 rfl rfl rfl), (P5.ne 10 5 rfl rfl rfl)⟩, ⟨(P5.ne 9 29 rfl rfl rfl), (P5.ne 9 5 rfl rfl rfl)⟩, ⟨(P5.ne 12 29 rfl rfl rfl), (P5.ne 12 5 rfl rfl rfl)⟩, ⟨(P5.ne 11 29 rfl rfl rfl), (P5.ne 11 5 rfl rfl rfl)⟩, ⟨(P5.ne 28 29 rfl rfl rfl), (P5.ne 28 5 rfl rfl rfl)⟩, fun _ h => nomatch h⟩) ?_
  intro h14 tk14 led14 dv nd k6 tq u9 F N e gda hdv hdl a6 c6
  dsimp only
  replace a1 := e _ a1 (P5.ne 0 29 rfl rfl rfl) (P5.ne 0 5 rfl rfl rfl)
  replace a2 := e _ a2 (P5.ne 1 29 rfl rfl rfl) (P5.ne 1 5 rfl rfl rfl)
  replace a3 := e _ a3 (P5.ne 2 29 rfl rfl rfl) (P5.ne 2 5 rfl rfl rfl)
  replace a4 := e _ a4 (P5.ne 3 29 rfl rfl rfl) (P5.ne 3 5 rfl rfl rfl)
  replace a5 := e _ a5 (P5.ne 4 29 rfl rfl rfl) (P5.ne 4 5 rfl rfl rfl)
  replace a7 := e _ a7 (P5.ne 6 29 rfl rfl rfl) (P5.ne 6 5 rfl rfl rfl)
  replace s2 := e _ s2 (P5.ne 7 29 rfl rfl rfl) (P5.ne 7 5 rfl rfl rfl)
  replace s1 := e _ s1 (P5.ne 8 29 rfl rfl rfl) (P5.ne 8 5 rfl rfl rfl)
  replace bdM := e _ bdM (P5.ne 9 29 rfl rfl rfl) (P5.ne 9 5 rfl rfl rfl)
  replace bM := e _ bM (P5.ne 10 29 rfl rfl rfl) (P5.ne 10 5 rfl rfl rfl)
  replace bdm := e _ bdm (P5.ne 11 29 rfl rfl rfl) (P5.ne 11 5 rfl rfl rfl)
  replace bmem := e _ bmem (P5.ne 12 29 rfl rfl rfl) (P5.ne 12 5 rfl rfl rfl)
  replace bwd := e _ bwd (P5.ne 13 29 rfl rfl rfl) (P5.ne 13 5 rfl rfl rfl)
  replace bdc := e _ bdc (P5.ne 14 29 rfl rfl rfl) (P5.ne 14 5 rfl rfl rfl)
  replace bcpu := e _ bcpu (P5.ne 15 29 rfl rfl rfl) (P5.ne 15 5 rfl rfl rfl)
  replace brg := e _ brg (P5.ne 16 29 rfl rfl rfl) (P5.ne 16 5 rfl rfl rfl)
  replace brows := e _ brows (P5.ne 17 29 rfl rfl rfl) (P5.ne 17 5 rfl rfl rfl)
  replace bt9 := e _ bt9 (P5.ne 18 29 rfl rfl rfl) (P5.ne 18 5 rfl rfl rfl)
  replace bld := e _ bld (P5.ne 19 29 rfl rfl rfl) (P5.ne 19 5 rfl rfl rfl)
  replace odob := e _ odob (P5.ne 20 29 rfl rfl rfl) (P5.ne 20 5 rfl rfl rfl)
  replace oob := e _ oob (P5.ne 21 29 rfl rfl rfl) (P5.ne 21 5 rfl rfl rfl)
  replace omp := e _ omp (P5.ne 22 29 rfl rfl rfl) (P5.ne 22 5 rfl rfl rfl)
  replace orw := e _ orw (P5.ne 23 29 rfl rfl rfl) (P5.ne 23 5 rfl rfl rfl)
  replace gdla := e _ gdla (P5.ne 24 29 rfl rfl rfl) (P5.ne 24 5 rfl rfl rfl)
  replace gla := e _ gla (P5.ne 25 29 rfl rfl rfl) (P5.ne 25 5 rfl rfl rfl)
  replace gpl := e _ gpl (P5.ne 26 29 rfl rfl rfl) (P5.ne 26 5 rfl rfl rfl)
  replace gra := e _ gra (P5.ne 27 29 rfl rfl rfl) (P5.ne 27 5 rfl rfl rfl)
  replace gwa := e _ gwa (P5.ne 28 29 rfl rfl rfl) (P5.ne 28 5 rfl rfl rfl)
  replace hmaps : MapsAre w ((da, kM) :: (wa, kM) :: led0) _ ompo ml := hmaps.tr fun x o hx hq => ⟨e _ hx (hq _ (.head _)).symm (hq _ (.tail _ (.tail _ za6))).symm, hq⟩
  replace hwl : WordsAre ((da, kM) :: led8) _ wv wl := hwl.tr fun x o hx hq => ⟨e _ hx (hq _ (.head _)).symm (hq _ (.tail _ ya6)).symm, hq⟩
  have hrg : (rvs.set 11 (Value.int (pAt n 0) tp))[(11 : Int).toNat]? = some (.int (pAt n 0) tp) := by rw [show (11 : Int).toNat = 11 from rfl, List.getElem?_set_self (by rw [hrl16]; decide)]
  have hmq := hmaps
  obtain ⟨kvs, me1, -, me3⟩ := hmq
  have h4 := WordsAre.len4 hwl
  refine exs (i := 18) (by rw [hlen]; decide) fun st hst => ?_
  refine law_18 hlk hst B F N X T hdp hu a2 d2 bM bdM hom bmem bdm hmem bwd hW hwd bcpu bdc hoc brg hrg (by rw [List.length_set, hrl16]; decide) ⟨la, dla, ol, ob, dob, oo, rw, mp, rv, n6, nr5, ompo, bld, gla, gdla, hL, oob, odob, hO, orw, hml.symm, omp, me1, hmps, by omega⟩ (ring_ok (w := w) WW hD me3) ⟨0, hn0, hr0, rfl⟩ gda hdv (roots_due WW hD hr0) (Nat.le_trans (due_len h4 34) (by decide)) ?_
  intro h15 tk15 led15 F N e
  dsimp only
  replace a1 := e _ a1 
  replace a2 := e _ a2 
  replace a3 := e _ a3 
  replace a4 := e _ a4 
  replace a5 := e _ a5 
  replace a6 := e _ a6 
  replace a7 := e _ a7 
  replace s2 := e _ s2 
  replace s1 := e _ s1 
  replace bdM := e _ bdM 
  replace bM := e _ bM 
  replace bdm := e _ bdm 
  replace bmem := e _ bmem 
  replace bwd := e _ bwd 
  replace bdc := e _ bdc 
  replace bcpu := e _ bcpu 
  replace brg := e _ brg 
  replace brows := e _ brows 
  replace bt9 := e _ bt9 
  replace bld := e _ bld 
  replace odob := e _ odob 
  replace oob := e _ oob 
  replace omp := e _ omp 
  replace orw := e _ orw 
  replace gdla := e _ gdla 
  replace gla := e _ gla 
  replace gpl := e _ gpl 
  replace gra := e _ gra 
  replace gwa := e _ gwa 
  replace gda := e _ gda 
  replace hmaps : MapsAre w ((da, kM) :: (wa, kM) :: led0) _ ompo ml := hmaps.tr fun x o hx hq => ⟨e _ hx, hq⟩
  replace hwl : WordsAre ((da, kM) :: led8) _ wv wl := hwl.tr fun x o hx hq => ⟨e _ hx, hq⟩
  clear me1 me3
  refine exs (i := 19) (by rw [hlen]; decide) fun st hst => ?_
  refine law_19 hlk hst B F N X T hdp hu a2 d2 a5 c5 a7 c7 bM bdM hom bmem bdm hmem bwd hW hwd (by omega) gpl hpv hn0 hn (A0.lt 6 9 rfl rfl rfl) (A0.lt 9 10 rfl rfl rfl) (A0.lt 10 11 rfl rfl rfl) (A0.lt 11 12 rfl rfl rfl) (A0.lt 12 13 rfl rfl rfl) (P5.ne 26 13 rfl rfl rfl) ?_
  intro h16 tk16 led16 ow c16 F N e bwd hW
  dsimp only
  replace a1 := e _ a1 (P5.ne 0 13 rfl rfl rfl)
  replace a2 := e _ a2 (P5.ne 1 13 rfl rfl rfl)
  replace a3 := e _ a3 (P5.ne 2 13 rfl rfl rfl)
  replace a4 := e _ a4 (P5.ne 3 13 rfl rfl rfl)
  replace a5 := e _ a5 (P5.ne 4 13 rfl rfl rfl)
  replace a6 := e _ a6 (P5.ne 5 13 rfl rfl rfl)
  replace a7 := e _ a7 (P5.ne 6 13 rfl rfl rfl)
  replace s2 := e _ s2 (P5.ne 7 13 rfl rfl rfl)
  replace s1 := e _ s1 (P5.ne 8 13 rfl rfl rfl)
  replace bdM := e _ bdM (P5.ne 9 13 rfl rfl rfl)
  replace bM := e _ bM (P5.ne 10 13 rfl rfl rfl)
  replace bdm := e _ bdm (P5.ne 11 13 rfl rfl rfl)
  replace bmem := e _ bmem (P5.ne 12 13 rfl rfl rfl)
  replace bdc := e _ bdc (P5.ne 14 13 rfl rfl rfl)
  replace bcpu := e _ bcpu (P5.ne 15 13 rfl rfl rfl)
  replace brg := e _ brg (P5.ne 16 13 rfl rfl rfl)
  replace brows := e _ brows (P5.ne 17 13 rfl rfl rfl)
  replace bt9 := e _ bt9 (P5.ne 18 13 rfl rfl rfl)
  replace bld := e _ bld (P5.ne 19 13 rfl rfl rfl)
  replace odob := e _ odob (P5.ne 20 13 rfl rfl rfl)
  replace oob := e _ oob (P5.ne 21 13 rfl rfl rfl)
  replace omp := e _ omp (P5.ne 22 13 rfl rfl rfl)
  replace orw := e _ orw (P5.ne 23 13 rfl rfl rfl)
  replace gdla := e _ gdla (P5.ne 24 13 rfl rfl rfl)
  replace gla := e _ gla (P5.ne 25 13 rfl rfl rfl)
  replace gpl := e _ gpl (P5.ne 26 13 rfl rfl rfl)
  replace gra := e _ gra (P5.ne 27 13 rfl rfl rfl)
  replace gwa := e _ gwa (P5.ne 28 13 rfl rfl rfl)
  replace gda := e _ gda (P5.ne 29 13 rfl rfl rfl)
  replace hmaps : MapsAre w ((da, kM) :: (wa, kM) :: led0) _ ompo ml := hmaps.tr fun x o hx hq => ⟨e _ hx (hq _ (.tail _ (.tail _ zbwd))).symm, hq⟩
  replace hwl : WordsAre ((da, kM) :: led8) _ wv wl := hwl.tr fun x o hx hq => ⟨e _ hx (hq _ (.tail _ ybwd)).symm, hq⟩
  obtain ⟨kvs, me1, -, me3⟩ := hmaps
  refine exs (i := 20) (by rw [hlen]; decide) fun st hst => ?_
  refine law_20 hlk hst B F N X T hdp hu a2 d2 bM bdM hom bmem bdm hmem bwd hW hwd bcpu bdc hoc brg hrg (by rw [List.length_set, hrl16]; decide) ⟨la, dla, ol, ob, dob, oo, rw, mp, rv, n6, nr5, ompo, bld, gla, gdla, hL, oob, odob, hO, orw, hml.symm, omp, me1, hmps, by omega⟩ (cut_ok (w := w) WW hD me3) (.inl ⟨0, hn0, hr0, rfl⟩) gwa (hwl.tr fun x o hx hq => ⟨hx, by intro p hp; cases hp⟩) (roots_flat WW hD hr0) (Nat.le_trans (flat_len h4) (by rw [hD.h1]; omega)) ?_
  intro h17 tk17 led17 F N
  exact k _ _ _ _ F N
end
end
section
open PySem PySem.W PyProof.Rows
theorem rst_42 {M : Model} {A : Around} {Q : Unit → Shared → Prop} {E : Value → Shared → Prop} {s : Shared} (h : Q () s) : wpAny M A (Sem.pure ()) Q E s := by
  w_top off
  first | walk1 | exact wpAny_pure h
end
section
open PySem PySem.W PySem.Calls PyProof.Rows PyProof.V
theorem fill_L1 : MineH.K = MineH.K ∧ PySem.Challenge.rw_pb0376_02 = PySem.Challenge.rw_pb0376_02 := by k_fill; exact ⟨rfl, rfl⟩
local macro_rules | `(tactic| walk_at "execs cons For cons") => `(tactic| refine held ?_)
local macro_rules | `(tactic| walk_at "binaryOp Mult ref int") => `(tactic| refine held ?_)
theorem grab2 {P : Prop} {h₀ h : Heap} {L a b : Addr} {o1 o2 : Obj} {r : List (Addr × Obj)} (_N : News h₀ L h ((a, o1) :: (b, o2) :: r)) (k : ∀ a' b' p1 p2, a' = a → b' = b → p1 = o1 → p2 = o2 → P) : P := k _ _ _ _ rfl rfl rfl rfl
theorem grabO {P : Prop} {o : Obj} {a b : Addr} (_ : ObjB o a b) (k : ∀ o', o' = o → P) : P := k o rfl
theorem grab4 {P : Prop} {h₀ h : Heap} {L a b c e : Addr} {o1 o2 o3 o4 : Obj} {r : List (Addr × Obj)} (_N : News h₀ L h ((a, o1) :: (b, o2) :: (c, o3) :: (e, o4) :: r)) (k : ∀ a' b' c' e' p1 p2 p3 p4, a' = a → b' = b → c' = c → e' = e → p1 = o1 → p2 = o2 → p3 = o3 → p4 = o4 → P) : P := k _ _ _ _ _ _ _ _ rfl rfl rfl rfl rfl rfl rfl rfl
section
variable {w : World} {A₀ : Around} {base h₀ : Heap} {L fa : Addr} {mg mb : Str → Option Value} {mean : ExcName → Option Value} {s : Shared} {Q : Flow → Shared → Prop} {R : Result → Shared → Prop}
  {d u : Nat} {gs : Option (List Code)} {oc : Value} {od : Option Addr} {name qual : Str} {params : Arguments} {body : List Stmt} {scope : Scope} {dV kV doc pm cdv ct cd : Value} {an : Option Addr} {osl : Array (Option Value)} {sc : Addr} {items : List Value} {ns : List Int}
  {k1 k2 k3 k4 k5 k6 k7 : Obj} {p1 p2 p3 p4 p5 p6 p7 : Option Value}
theorem law_a (hlk : List.lookup 430 (MineH.K w.params) = some ⟨oc, od, .func (fnOf name qual params body scope dV kV doc pm an cdv ct), osl⟩)
  (B : Below A₀ base [] h₀) (F : Fr h₀ L s.heap (fun y => if y = Str.ofString "script" then some (Value.ref sc) else none))
  (N : News h₀ L s.heap [(L + 1 + 1 + 1 + 1 + 1 + 1 + 1, k7), (L + 1 + 1 + 1 + 1 + 1 + 1, k6), (L + 1 + 1 + 1 + 1 + 1, k5), (L + 1 + 1 + 1 + 1, k4), (L + 1 + 1 + 1, k3), (L + 1 + 1, k2), (L + 1, k1)])
  (c1 : k1.data = .cell p1) (c2 : k2.data = .cell p2) (c3 : k3.data = .cell p3) (c4 : k4.data = .cell p4) (c5 : k5.data = .cell p5) (c6 : k6.data = .cell p6) (c7 : k7.data = .cell p7)
  (X : (MineH.K w.params).In h₀) (T : Top MineH.qv LB mean mg mb h₀)
  (XB : (MineH.K w.params).In base) (TB : Top MineH.qv LB mean mg mb base) (hsc : base.IsList sc items.toArray) (hi : IntsAre items ns) (hl : ns.length ≤ 63) (hdp : d < 400) (hu : u ≤ 800)
  (k : ∀ h' tk m' news', Fr h₀ L h' m' → News h₀ L h' news' → Q (.ret (.bool true)) { s with heap := h', toks := tk }) :
  wpAny (model P2 w) (mkA none d (envOfC qual scope L fa cd) [] gs u) (execs body (envOfC qual scope L fa cd)) Q
    (fun e s' => wpAny (model P2 w) (mkA none d (envOfC qual scope L fa cd) [] gs u) (leaving (envOfC qual scope L fa cd) e) (fun _ s'' => R (.error e) s'') (fun e' s'' => R (.error e') s'') s') s := by
  rw [show List.lookup 430 (MineH.K w.params) = some _ from (by k_is)] at hlk
  cases hlk
  (try dsimp only)
  (try k_lift B)
  (try k_fold)
  have hCx : ∀ {m' : Str → Option Value} {h' : Heap} {env : Env}, env.frame = some L → env.scope.kind = .function → Fr h₀ L h' m' → Cb w A₀ base h₀ [] env L m' mg mb mean h' := fun e1 e2 F => ⟨B, F, X, T, e1, e2⟩
  k_steps
  (rename News _ _ _ _ => N1)
  refine grab4 N1 fun src sl2 lst sl1 so so2 lo so1 e1 e2 e3 e4 e5 e6 e7 e8 => ?_
  subst e1 e2 e3 e4
  have hLl : @LT.lt Nat _ (L + 1 + 1 + 1 + 1 + 1 + 1 + 1) lst := by omega
  have hls : @LT.lt Nat _ lst src := by omega
  have hS : SrcIs lst so lo := ⟨_, _, _, _, _, _, _, _, e5, e7, by assumption, ?hl, ?ha, ?hb⟩
  case hl => rw [IntsAre.length (by assumption), List.length_take]; omega
  case ha => omega
  case hb => exact Int.add_nonneg (by decide) (Int.fmod_nonneg_of_pos _ (by decide))
  rw [← e5, ← e6, ← e7, ← e8] at N1
  clear e5 e6 e7 e8
  refine Held.of (wpAny_call (machine_ok (hCx rfl rfl (by k_asm)) (by omega) (by k_asm) ?_))
  k_whole
  rintro h2 tk2 M dM mem dm wd cpu dc rg rows ld hp out gv t9 om oc omem ow o9 n3 n4 f c rvs nr F2 N2 hM hC hMem hW hcw hwd hrv l2 ⟨q1, q2, q3, q4, q5, q6, q7, q8, q9, q10⟩
  try dsimp only
  try k_lt l2
  try k_sweep
  k_steps
  refine Held.of (wpAny_call (objfile_ok (hCx rfl rfl (by k_asm)) (by omega) (by k_asm) ?_))
  k_whole
  rintro h3 tk3 ob dob oo rwl mp omp F3 N3 hO hmp hmps l3 l4 l5
  try dsimp only
  try k_lt l3
  try k_sweep
  k_steps
  (rename (_ : Obj).data = Data.cell (some (Value.ref src)) => d1); (rename (_ : Obj).data = Data.cell (some (Value.ref M)) => d2); (rename (_ : Obj).data = Data.cell (some (Value.ref ob)) => d3)
  refine grabC d1 fun kS e => ?_
  subst e
  refine grabC d2 fun kM e => ?_
  subst e
  refine grabC d3 fun kO e => ?_
  subst e
  (rename News _ _ _ _ => N5)
  refine grab2 N5 fun rl tb rlo tbo e1 e2 e3 e4 => ?_
  subst e1 e2
  have hrl : rlo = lisOf [.ref tb] 0 := e3
  rw [← e3, ← e4] at N5
  clear e3 e4
  refine Held.of (wpAny_call (take_m (rest := [(rl, rlo), (tb, tbo), (mp, omp), (ob, instObj 414 dob), (dob, oo), (ld, lisOf [] n4), (t9, o9), (rows, lisOf [Value.ref t9] n3), (rg, lisOf rvs nr), (cpu, instObj 245 dc), (dc, oc), (wd, ow), (mem, instObj 301 dm), (dm, omem), (M, instObj 393 dM), (dM, om), (L + 1 + 1 + 1 + 1 + 1 + 1 + 1, k7), (L + 1 + 1 + 1 + 1 + 1 + 1, k6), (L + 1 + 1 + 1 + 1 + 1, k5), (L + 1 + 1 + 1 + 1, k4), (L + 1 + 1 + 1, kO), (L + 1 + 1, kM), (L + 1, kS)])
    (hCx rfl rfl (by k_asm)) (by omega) (by omega) (by k_asm) (by k_mem) (by k_mem) hS ?hr ?off (by decide) (by decide) ?hne ?_))
  case hr => simp only [List.forall_mem_cons]; exact ⟨by k_mem, by k_mem, by k_mem, by k_mem, by k_mem, by k_mem, by k_mem, by k_mem, by k_mem, by k_mem, by k_mem, by k_mem, by k_mem, by k_mem, by k_mem, by k_mem, by k_mem, by k_mem, by k_mem, by k_mem, by k_mem, by k_mem, by k_mem, fun _ h => nomatch h⟩
  case off =>
    simp only [List.forall_mem_cons]
    exact ⟨⟨ne_L (by omega), ne_L (by omega)⟩, ⟨ne_L (by omega), ne_L (by omega)⟩, ⟨ne_L (by omega), ne_L (by omega)⟩, ⟨ne_L (by omega), ne_L (by omega)⟩, ⟨ne_L (by omega), ne_L (by omega)⟩, ⟨ne_L (by omega), ne_L (by omega)⟩, ⟨ne_L (by omega), ne_L (by omega)⟩, ⟨ne_L (by omega), ne_L (by omega)⟩, ⟨ne_L (by omega), ne_L (by omega)⟩, ⟨ne_L (by omega), ne_L (by omega)⟩, ⟨ne_L (by omega), ne_L (by omega)⟩, ⟨ne_L (by omega), ne_L (by omega)⟩, ⟨ne_L (by omega), ne_L (by omega)⟩, ⟨ne_L (by omega), ne_L (by omega)⟩, ⟨ne_L (by omega), ne_L (by omega)⟩, ⟨ne_L (by omega), ne_L (by omega)⟩, ⟨ne_L (by omega), ne_L (by omega)⟩, ⟨ne_L (by omega), ne_L (by omega)⟩, ⟨ne_L (by omega), ne_L (by omega)⟩, ⟨ne_L (by omega), ne_L (by omega)⟩, ⟨ne_L (by omega), ne_L (by omega)⟩, ⟨ne_L (by omega), ne_L (by omega)⟩, ⟨ne_L (by omega), ne_L (by omega)⟩, fun _ h => nomatch h⟩
  case hne => omega
  k_whole
  intro h4 tk4 so4 lo4 x4 t4 F4 N4 hS4 x40 x41
  try dsimp only
  try k_sweep
  subst hrl
  have hrn : (List.replicate (2 + x4).toNat (Value.ref tb)).length ≤ 100000 := by rw [List.length_replicate]; omega
  k_steps
  refine Held.of (mul_one (by k_asm) (by k_asm) (by k_mem) (by omega) (by omega) ?_)
  intro D5 h5 F5 N5 l5D
  try dsimp only
  have lD : @LT.lt Nat _ mp D5 := l5D (mp, omp) (by k_mem)
  try k_lt l5D
  try k_sweep
  k_steps
  (rename ObjB _ D5 mp => hO5)
  refine grabO hO5 fun oo5 e => ?_
  subst e
  (rename News _ _ _ _ => kN); (rename Fr _ _ _ _ => kF)
  have hr2 : 2 ≤ (List.replicate (2 + x4).toNat (Value.ref tb)).length := by rw [List.length_replicate]; omega
  have hr7 : (List.replicate (2 + x4).toNat (Value.ref tb)).length ≤ 7 := by rw [List.length_replicate]; omega
  refine Held.of (law_z (kS := kS) (kM := kM) (kO := kO) (k4 := k4) (k5 := k5) (k6 := k6) (k7 := k7) (so := so4) (lo := lo4) (om := om) (omem := omem) (ow := ow) (occ := oc) (o9 := o9) (oo := oo5) (ompo := omp) (rvs := rvs) (rv := List.replicate (2 + x4).toNat (Value.ref tb)) (nr := nr) (n3 := n3) (n4 := n4) (nr5 := 0)
    (by k_is) rfl B kF kN X T hdp hu ⟨Nat.lt_succ_self _, Nat.lt_succ_self _, Nat.lt_succ_self _, Nat.lt_succ_self _, Nat.lt_succ_self _, Nat.lt_succ_self _, hLl, hls, l2.1, q1, q2, q3, q4, q5, q6, q7, q8, q9, q10, l3.1, l4, l5, lD, trivial⟩
    (by k_mem) (by k_mem) (by k_mem) (by k_mem) (by k_mem) (by k_mem) (by k_mem) (by k_mem) (by k_mem) (by k_mem) (by k_mem) (by k_mem) (by k_mem) (by k_mem) (by k_mem) (by k_mem) (by k_mem) (by k_mem) (by k_mem) (by k_mem) (by k_mem) (by k_mem) (by k_mem) (by k_mem)
    d1 d2 d3 c4 c5 c6 c7 hS4 hls hM hMem hW hwd hcw hC hrv hO5 hmp hmps hr2 hr7 ?_)
  exact k
end
end
section
open PySem PySem.W PyProof.Rows
theorem rst_43 {M : Model} {A : Around} {Q : Unit → Shared → Prop} {E : Value → Shared → Prop} {s : Shared} (h : Q () s) : wpAny M A (Sem.pure ()) Q E s := by
  w_top off
  first | walk1 | exact wpAny_pure h
end
section
open PySem PySem.W PyProof.Rows
theorem rst_44 {M : Model} {A : Around} {Q : Unit → Shared → Prop} {E : Value → Shared → Prop} {s : Shared} (h : Q () s) : wpAny M A (Sem.pure ()) Q E s := by
  w_top off
  first | walk1 | exact wpAny_pure h
end
section
open PySem PySem.W PySem.Calls PyProof.Rows PyProof.V
theorem fill_LawM : MineH.K = MineH.K ∧ PySem.Challenge.rw_pb0376_02 = PySem.Challenge.rw_pb0376_02 := by k_fill; exact ⟨rfl, rfl⟩
local macro_rules | `(tactic| k_qdec) => `(tactic| decide +kernel)
theorem lawM : PySem.Challenge.rw_pb0376_02.Holds := MineH.hd0 (by
  k_go0
  all_goals try k_fold
  (rename Below _ _ _ _ => K0'); (rename Fr _ _ _ _ => F'); (rename News _ _ _ _ => N'); (rename Frag.In _ _ => X'); (rename Top _ _ _ _ _ _ => T'); (rename Heap.IsList _ _ _ => hL'); (rename IntsAre _ _ => hI')
  (rename ¬ (((63 : Nat) : Int) < _) => h63)
  refine law_a (by k_is) K0' F' N' (by with_reducible assumption) (by with_reducible assumption) (by with_reducible assumption) (by with_reducible assumption) (by with_reducible assumption) (by with_reducible assumption) (by with_reducible assumption) X' T' X' T' hL' hI' (by omega) (by decide) (by decide) ?_
  intro h' tk m' news' F9 N9
  k_steps)
end
section
open PySem PySem.W PyProof.Rows
theorem rst_45 {M : Model} {A : Around} {Q : Unit → Shared → Prop} {E : Value → Shared → Prop} {s : Shared} (h : Q () s) : wpAny M A (Sem.pure ()) Q E s := by
  w_top off
  first | walk1 | exact wpAny_pure h
end
end Mine
theorem PySem.Challenge.cw_pb0376_02_holds : PySem.Challenge.rw_pb0376_02.Holds :=
  Mine.lawM
