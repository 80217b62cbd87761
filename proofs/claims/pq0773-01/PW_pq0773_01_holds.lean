import PyProof.Rows.All
import Wide.All
import OpenK.AllK
import Wide.FinOn
import PySem.Challenge.RW_pq0773_01
open PySem PySem.W PySem.Calls PyProof.Rows
set_option Elab.async false
set_option maxRecDepth 100000
set_option maxHeartbeats 8000000
set_option linter.unusedVariables false
namespace Mine.hd
abbrev RP : Program := PySem.Challenge.rw_pq0773_01.row.prog
noncomputable def at0 : List Stmt → Nat → Stmt
  | s :: _, 0 => s
  | _ :: l, n + 1 => at0 l n
  | [], _ => .Pass ⟨0, 0, 0, 0⟩
def bodyIn : Stmt → List Stmt
  | .ClassDef _ _ _ b .. => b
  | _ => []
noncomputable def st1 (i : Nat) : Stmt := at0 RP.main.body i
noncomputable def st2 (i j : Nat) : Stmt := at0 (bodyIn (st1 i)) j
def fnAt {n : Str} {a : Arguments} {b : List Stmt} {d : List Expr} {r : Option Expr} {t : List TypeParam} {sc : Scope} {x : Option Scope} {q : Str} {p : Pos} (s : Stmt) (qual : String) (cls : Value) (dict : Option Addr) (slots : Array (Option Value))
    (g : Addr) (cl : List (Str × Addr)) (dv kv doc pm : Value) (an : Option Addr) (cd ct : Value) (bl : Addr) (_ : Stmt.FunctionDef n a b d r t sc x q p = s) : Params → Obj := fun _ =>
  ⟨cls, dict, .func ⟨n, Str.ofString qual, a, .stmts b, sc, g, cl, dv, kv, doc, pm, an, cd, ct, bl⟩, slots⟩
noncomputable def o43 : Params → Obj := fun P => (PySem.Obj.mk (Value.type "tuple") Option.none (Data.seq (List.toArray []) 0) (List.toArray []))
noncomputable def o44 : Params → Obj := fun P => (PySem.Obj.mk Value.none Option.none (Data.fields (List.toArray [])) (List.toArray []))
noncomputable def o45 : Params → Obj := fun P => (PySem.Obj.mk (Value.type "code") Option.none (Data.fields (List.toArray [(Value.str (Str.ofString "<module>") 182), (Value.str (Str.ofString "<module>") 183), (Value.str (Str.ofString "/claim/cut.py") 184), (Value.int (1 : Int) 0), (Value.int (0 : Int) 0), (Value.int (0 : Int) 0), (Value.int (0 : Int) 0), (Value.int (0 : Int) 0), (Value.ref 11), (Value.bool Bool.false), (Value.int (181 : Int) 0), (Value.ref 12), Value.none, Value.none, Value.none, Value.none, (Value.int (185 : Int) 0), (Value.int (1 : Int) 0), (Value.str (Str.ofString "/claim/cut.py") 186)])) (List.toArray []))
noncomputable def o46 : Params → Obj := fun P => (PySem.Obj.mk (Value.type "frame") Option.none Data.plain (List.toArray [(Option.some (Value.ref 13)), (Option.some (Value.ref 3)), (Option.some (Value.ref 3)), Option.none, (Option.some (Value.str (Str.ofString "__main__") 164)), Option.none, (Option.some (Value.ref 0))]))
noncomputable def o49 : Params → Obj := fun P => (PySem.Obj.mk Value.none Option.none (Data.dict (List.toArray [(PySem.DictEntry.mk (PySem.PyData.keyHash P (Str.ofString "type.__subclasses__.Exception.0")) (Value.str (Str.ofString "type.__subclasses__.Exception.0") 223) (Value.int (38 : Int) 0)), (PySem.DictEntry.mk (PySem.PyData.keyHash P (Str.ofString "type.__subclasses__.Exception.n")) (Value.str (Str.ofString "type.__subclasses__.Exception.n") 224) (Value.int (1 : Int) 0))]) 2) (List.toArray []))
noncomputable def o52 : Params → Obj := fun P => (PySem.Obj.mk (Value.type "tuple") Option.none (Data.seq (List.toArray []) 0) (List.toArray []))
noncomputable def o53 : Params → Obj := fun P => (PySem.Obj.mk Value.none Option.none (Data.fields (List.toArray [])) (List.toArray []))
noncomputable def o54 : Params → Obj := fun P => (PySem.Obj.mk (Value.type "tuple") Option.none (Data.seq (List.toArray [(Value.str (Str.ofString "k") 190)]) 0) (List.toArray []))
noncomputable def o55 : Params → Obj := fun P => (PySem.Obj.mk (Value.type "tuple") Option.none (Data.seq (List.toArray []) 0) (List.toArray []))
noncomputable def o56 : Params → Obj := fnAt (st1 0) "_wall" Value.none Option.none (List.toArray []) 0 [] Value.none Value.none Value.none Value.none Option.none Value.none Value.none 0 rfl
noncomputable def o57 : Params → Obj := fun P => (PySem.Obj.mk (Value.type "code") Option.none (Data.fields (List.toArray [(Value.str (Str.ofString "_wall") 187), (Value.str (Str.ofString "_wall") 188), (Value.str (Str.ofString "/claim/cut.py") 189), (Value.int (1 : Int) 0), (Value.int (1 : Int) 0), (Value.int (0 : Int) 0), (Value.int (0 : Int) 0), (Value.int (3 : Int) 0), (Value.ref 15), (Value.bool Bool.true), (Value.int (181 : Int) 0), (Value.ref 16), Value.none, (Value.ref 17), (Value.ref 18), (Value.ref 19), (Value.int (191 : Int) 0), (Value.int (1 : Int) 0), (Value.str (Str.ofString "/claim/cut.py") 192)])) (List.toArray []))
noncomputable def o58 : Params → Obj := fnAt (st1 0) "_wall" (Value.type "function") Option.none (List.toArray []) 3 [] Value.none Value.none Value.none (Value.str (Str.ofString "__main__") 164) Option.none (Value.ref 20) Value.none 0 rfl
noncomputable def o59 : Params → Obj := fun P => (PySem.Obj.mk (Value.type "tuple") Option.none (Data.seq (List.toArray []) 0) (List.toArray []))
noncomputable def o60 : Params → Obj := fun P => (PySem.Obj.mk Value.none Option.none (Data.fields (List.toArray [])) (List.toArray []))
noncomputable def o61 : Params → Obj := fun P => (PySem.Obj.mk (Value.type "tuple") Option.none (Data.seq (List.toArray [(Value.str (Str.ofString "objects") 199), (Value.str (Str.ofString "room") 200), (Value.str (Str.ofString "name") 201)]) 0) (List.toArray []))
noncomputable def o62 : Params → Obj := fun P => (PySem.Obj.mk (Value.type "tuple") Option.none (Data.seq (List.toArray []) 0) (List.toArray []))
noncomputable def o63 : Params → Obj := fnAt (st1 2) "data_room" Value.none Option.none (List.toArray []) 0 [] Value.none Value.none Value.none Value.none Option.none Value.none Value.none 0 rfl
noncomputable def o64 : Params → Obj := fun P => (PySem.Obj.mk (Value.type "code") Option.none (Data.fields (List.toArray [(Value.str (Str.ofString "data_room") 196), (Value.str (Str.ofString "data_room") 197), (Value.str (Str.ofString "/claim/cut.py") 198), (Value.int (5 : Int) 0), (Value.int (1 : Int) 0), (Value.int (0 : Int) 0), (Value.int (0 : Int) 0), (Value.int (3 : Int) 0), (Value.ref 22), (Value.bool Bool.true), (Value.int (181 : Int) 0), (Value.ref 23), Value.none, (Value.ref 24), (Value.ref 25), (Value.ref 26), (Value.int (202 : Int) 0), (Value.int (5 : Int) 0), (Value.str (Str.ofString "/claim/cut.py") 203)])) (List.toArray []))
noncomputable def o65 : Params → Obj := fnAt (st1 2) "data_room" (Value.type "function") Option.none (List.toArray []) 3 [] Value.none Value.none Value.none (Value.str (Str.ofString "moduleyard.session") 194) Option.none (Value.ref 27) Value.none 0 rfl
noncomputable def o66 : Params → Obj := fun P => (PySem.Obj.mk (Value.type "tuple") Option.none (Data.seq (List.toArray [(Value.type "Exception")]) 0) (List.toArray []))
noncomputable def o67 : Params → Obj := fun P => (PySem.Obj.mk (Value.type "builtin_function_or_method") Option.none (Data.fields (List.toArray [(Value.builtin "type.__prepare__"), (Value.type "type")])) (List.toArray []))
noncomputable def o68 : Params → Obj := fun P => (PySem.Obj.mk (Value.type "dict") Option.none (Data.dict (List.toArray [(PySem.DictEntry.mk (PySem.PyData.keyHash P (Str.ofString "__module__")) (Value.str (Str.ofString "__module__") 214) (Value.str (Str.ofString "moduleyard.errors") 205)), (PySem.DictEntry.mk (PySem.PyData.keyHash P (Str.ofString "__qualname__")) (Value.str (Str.ofString "__qualname__") 216) (Value.str (Str.ofString "YardError") 215)), (PySem.DictEntry.mk (PySem.PyData.keyHash P (Str.ofString "__firstlineno__")) (Value.str (Str.ofString "__firstlineno__") 218) (Value.int (11 : Int) 217)), (PySem.DictEntry.mk (PySem.PyData.keyHash P (Str.ofString "__static_attributes__")) (Value.str (Str.ofString "__static_attributes__") 219) (Value.ref 36))]) 4) (List.toArray []))
noncomputable def o69 : Params → Obj := fun P => (PySem.Obj.mk (Value.type "tuple") Option.none (Data.seq (List.toArray []) 0) (List.toArray []))
noncomputable def o70 : Params → Obj := fun P => (PySem.Obj.mk Value.none Option.none (Data.fields (List.toArray [])) (List.toArray []))
noncomputable def o71 : Params → Obj := fun P => (PySem.Obj.mk (Value.type "code") Option.none (Data.fields (List.toArray [(Value.str (Str.ofString "YardError") 209), (Value.str (Str.ofString "YardError") 210), (Value.str (Str.ofString "/claim/cut.py") 211), (Value.int (11 : Int) 0), (Value.int (0 : Int) 0), (Value.int (0 : Int) 0), (Value.int (0 : Int) 0), (Value.int (0 : Int) 0), (Value.ref 32), (Value.bool Bool.false), (Value.int (181 : Int) 0), (Value.ref 33), Value.none, Value.none, Value.none, Value.none, (Value.int (212 : Int) 0), (Value.int (11 : Int) 0), (Value.str (Str.ofString "/claim/cut.py") 213)])) (List.toArray []))
noncomputable def o72 : Params → Obj := fun P => (PySem.Obj.mk (Value.type "frame") Option.none Data.plain (List.toArray [(Option.some (Value.ref 34)), (Option.some (Value.ref 3)), (Option.some (Value.ref 31)), Option.none, (Option.some (Value.str (Str.ofString "moduleyard.errors") 205)), Option.none, (Option.some (Value.ref 0))]))
noncomputable def o73 : Params → Obj := fun P => (PySem.Obj.mk (Value.type "tuple") Option.none (Data.seq (List.toArray []) 0) (List.toArray []))
noncomputable def o74 : Params → Obj := fun P => (PySem.Obj.mk (Value.type "dict") Option.none (Data.dict (List.toArray [(PySem.DictEntry.mk (PySem.PyData.keyHash P (Str.ofString "__module__")) (Value.str (Str.ofString "__module__") 214) (Value.str (Str.ofString "moduleyard.errors") 205)), (PySem.DictEntry.mk (PySem.PyData.keyHash P (Str.ofString "__firstlineno__")) (Value.str (Str.ofString "__firstlineno__") 218) (Value.int (11 : Int) 217)), (PySem.DictEntry.mk (PySem.PyData.keyHash P (Str.ofString "__static_attributes__")) (Value.str (Str.ofString "__static_attributes__") 219) (Value.ref 36)), (PySem.DictEntry.mk (PySem.PyData.keyHash P (Str.ofString "__weakref__")) (Value.str (Str.ofString "__weakref__") 221) (Value.ref 39)), (PySem.DictEntry.mk (PySem.PyData.keyHash P (Str.ofString "__doc__")) (Value.str (Str.ofString "__doc__") 222) Value.none)]) 3) (List.toArray []))
noncomputable def o76 : Params → Obj := fun P => (PySem.Obj.mk (Value.type "getset_descriptor") Option.none (Data.fields (List.toArray [(Value.str (Str.ofString "__weakref__") 220), (Value.ref 38), (Value.builtin "ExceptionGroup.__weakref__"), Value.none])) (List.toArray []))
noncomputable def o77 : Params → Obj := fun P => (PySem.Obj.mk (Value.type "super") Option.none (Data.fields (List.toArray [(Value.ref 38), (Value.ref 38), (Value.ref 38)])) (List.toArray []))
noncomputable def o78 : Params → Obj := fun P => (PySem.Obj.mk (Value.type "builtin_function_or_method") Option.none (Data.fields (List.toArray [(Value.builtin "object.__init_subclass__"), (Value.ref 38)])) (List.toArray []))
noncomputable def o79 : Params → Obj := fun P => (PySem.Obj.mk (Value.type "dict") Option.none (Data.dict (List.toArray [(PySem.DictEntry.mk (PySem.PyData.keyHash P (Str.ofString "__name__")) (Value.str (Str.ofString "__name__") 165) (Value.str (Str.ofString "moduleyard.heap") 256)), (PySem.DictEntry.mk (PySem.PyData.keyHash P (Str.ofString "__doc__")) (Value.str (Str.ofString "__doc__") 166) Value.none), (PySem.DictEntry.mk (PySem.PyData.keyHash P (Str.ofString "__package__")) (Value.str (Str.ofString "__package__") 167) Value.none), (PySem.DictEntry.mk (PySem.PyData.keyHash P (Str.ofString "__loader__")) (Value.str (Str.ofString "__loader__") 168) (Value.builtin "__main__.__loader__#opaque")), (PySem.DictEntry.mk (PySem.PyData.keyHash P (Str.ofString "__spec__")) (Value.str (Str.ofString "__spec__") 169) Value.none), (PySem.DictEntry.mk (PySem.PyData.keyHash P (Str.ofString "__annotations__")) (Value.str (Str.ofString "__annotations__") 170) (Value.ref 6)), (PySem.DictEntry.mk (PySem.PyData.keyHash P (Str.ofString "__builtins__")) (Value.str (Str.ofString "__builtins__") 171) (Value.ref 4)), (PySem.DictEntry.mk (PySem.PyData.keyHash P (Str.ofString "__file__")) (Value.str (Str.ofString "__file__") 173) (Value.str (Str.ofString "/claim/cut.py") 172)), (PySem.DictEntry.mk (PySem.PyData.keyHash P (Str.ofString "__cached__")) (Value.str (Str.ofString "__cached__") 174) Value.none), (PySem.DictEntry.mk (PySem.PyData.keyHash P (Str.ofString "_wall")) (Value.str (Str.ofString "_wall") 193) (Value.ref 21)), (PySem.DictEntry.mk (PySem.PyData.keyHash P (Str.ofString "data_room")) (Value.str (Str.ofString "data_room") 204) (Value.ref 28)), (PySem.DictEntry.mk (PySem.PyData.keyHash P (Str.ofString "YardError")) (Value.str (Str.ofString "YardError") 226) (Value.ref 38)), (PySem.DictEntry.mk (PySem.PyData.keyHash P (Str.ofString "TrapError")) (Value.str (Str.ofString "TrapError") 255) (Value.ref 58)), (PySem.DictEntry.mk (PySem.PyData.keyHash P (Str.ofString "LISTS")) (Value.str (Str.ofString "LISTS") 259) (Value.int (4 : Int) 258)), (PySem.DictEntry.mk (PySem.PyData.keyHash P (Str.ofString "list_number")) (Value.str (Str.ofString "list_number") 266) (Value.ref 67))]) 15) (List.toArray []))
noncomputable def o80 : Params → Obj := fun P => (PySem.Obj.mk Value.none Option.none (Data.fields (List.toArray [(Value.int (1 : Int) 0), (Value.int (0 : Int) 0), (Value.ref 20), (Value.int (5 : Int) 0), (Value.int (0 : Int) 0), (Value.ref 27), (Value.int (11 : Int) 0), (Value.int (0 : Int) 0), (Value.ref 34), (Value.int (13 : Int) 0), (Value.int (0 : Int) 0), (Value.ref 47), (Value.int (21 : Int) 0), (Value.int (0 : Int) 0), (Value.ref 66)])) (List.toArray []))
noncomputable def o81 : Params → Obj := fun P => (PySem.Obj.mk (Value.type "type") Option.none (Data.cls (PySem.ClassData.mk (Str.ofString "YardError") [(Value.type "Exception")] [(Value.ref 38), (Value.type "Exception"), (Value.type "BaseException"), (Value.type "object")] 37 (Str.ofString "YardError") Bool.true [] [(Value.ref 58)] Bool.false Option.none Bool.false)) (List.toArray [(Option.some (Value.ref 29)), Option.none, (Option.some (Value.str (Str.ofString "YardError") 207)), (Option.some (Value.str (Str.ofString "YardError") 215)), (Option.some (Value.builtin "Exception.__new__")), (Option.some (Value.bool Bool.true))]))
noncomputable def o82 : Params → Obj := fun P => (PySem.Obj.mk (Value.type "tuple") Option.none (Data.seq (List.toArray [(Value.ref 38)]) 0) (List.toArray []))
noncomputable def o83 : Params → Obj := fun P => (PySem.Obj.mk (Value.type "builtin_function_or_method") Option.none (Data.fields (List.toArray [(Value.builtin "type.__prepare__"), (Value.type "type")])) (List.toArray []))
noncomputable def o84 : Params → Obj := fun P => (PySem.Obj.mk (Value.type "dict") Option.none (Data.dict (List.toArray [(PySem.DictEntry.mk (PySem.PyData.keyHash P (Str.ofString "__module__")) (Value.str (Str.ofString "__module__") 234) (Value.str (Str.ofString "moduleyard.errors") 205)), (PySem.DictEntry.mk (PySem.PyData.keyHash P (Str.ofString "__qualname__")) (Value.str (Str.ofString "__qualname__") 236) (Value.str (Str.ofString "TrapError") 235)), (PySem.DictEntry.mk (PySem.PyData.keyHash P (Str.ofString "__firstlineno__")) (Value.str (Str.ofString "__firstlineno__") 238) (Value.int (13 : Int) 237)), (PySem.DictEntry.mk (PySem.PyData.keyHash P (Str.ofString "__init__")) (Value.str (Str.ofString "__init__") 248) (Value.ref 55)), (PySem.DictEntry.mk (PySem.PyData.keyHash P (Str.ofString "__static_attributes__")) (Value.str (Str.ofString "__static_attributes__") 252) (Value.ref 56))]) 5) (List.toArray []))
noncomputable def o85 : Params → Obj := fun P => (PySem.Obj.mk (Value.type "tuple") Option.none (Data.seq (List.toArray []) 0) (List.toArray []))
noncomputable def o86 : Params → Obj := fun P => (PySem.Obj.mk Value.none Option.none (Data.fields (List.toArray [(Value.int (15 : Int) 0), (Value.int (4 : Int) 0), (Value.ref 54)])) (List.toArray []))
noncomputable def o87 : Params → Obj := fun P => (PySem.Obj.mk (Value.type "code") Option.none (Data.fields (List.toArray [(Value.str (Str.ofString "TrapError") 229), (Value.str (Str.ofString "TrapError") 230), (Value.str (Str.ofString "/claim/cut.py") 231), (Value.int (13 : Int) 0), (Value.int (0 : Int) 0), (Value.int (0 : Int) 0), (Value.int (0 : Int) 0), (Value.int (0 : Int) 0), (Value.ref 45), (Value.bool Bool.false), (Value.int (181 : Int) 0), (Value.ref 46), Value.none, Value.none, Value.none, Value.none, (Value.int (232 : Int) 0), (Value.int (13 : Int) 0), (Value.str (Str.ofString "/claim/cut.py") 233)])) (List.toArray []))
noncomputable def o88 : Params → Obj := fun P => (PySem.Obj.mk (Value.type "frame") Option.none Data.plain (List.toArray [(Option.some (Value.ref 47)), (Option.some (Value.ref 3)), (Option.some (Value.ref 44)), Option.none, (Option.some (Value.str (Str.ofString "moduleyard.errors") 205)), Option.none, (Option.some (Value.ref 0))]))
noncomputable def o89 : Params → Obj := fun P => (PySem.Obj.mk (Value.type "tuple") Option.none (Data.seq (List.toArray []) 0) (List.toArray []))
noncomputable def o90 : Params → Obj := fun P => (PySem.Obj.mk Value.none Option.none (Data.fields (List.toArray [])) (List.toArray []))
noncomputable def o91 : Params → Obj := fun P => (PySem.Obj.mk (Value.type "tuple") Option.none (Data.seq (List.toArray [(Value.str (Str.ofString "self") 242), (Value.str (Str.ofString "number") 243), (Value.str (Str.ofString "place") 244), (Value.str (Str.ofString "module") 245)]) 0) (List.toArray []))
noncomputable def o92 : Params → Obj := fun P => (PySem.Obj.mk (Value.type "tuple") Option.none (Data.seq (List.toArray []) 0) (List.toArray []))
noncomputable def o93 : Params → Obj := fnAt (st2 5 0) "TrapError.__init__" Value.none Option.none (List.toArray []) 0 [] Value.none Value.none Value.none Value.none Option.none Value.none Value.none 0 rfl
noncomputable def o94 : Params → Obj := fun P => (PySem.Obj.mk (Value.type "code") Option.none (Data.fields (List.toArray [(Value.str (Str.ofString "__init__") 239), (Value.str (Str.ofString "TrapError.__init__") 240), (Value.str (Str.ofString "/claim/cut.py") 241), (Value.int (15 : Int) 0), (Value.int (4 : Int) 0), (Value.int (0 : Int) 0), (Value.int (0 : Int) 0), (Value.int (3 : Int) 0), (Value.ref 49), (Value.bool Bool.true), (Value.int (181 : Int) 0), (Value.ref 50), Value.none, (Value.ref 51), (Value.ref 52), (Value.ref 53), (Value.int (246 : Int) 0), (Value.int (15 : Int) 0), (Value.str (Str.ofString "/claim/cut.py") 247)])) (List.toArray []))
noncomputable def o95 : Params → Obj := fnAt (st2 5 0) "TrapError.__init__" (Value.type "function") Option.none (List.toArray []) 3 [] Value.none Value.none Value.none (Value.str (Str.ofString "moduleyard.errors") 205) Option.none (Value.ref 54) Value.none 0 rfl
noncomputable def o96 : Params → Obj := fun P => (PySem.Obj.mk (Value.type "tuple") Option.none (Data.seq (List.toArray [(Value.str (Str.ofString "module") 249), (Value.str (Str.ofString "number") 250), (Value.str (Str.ofString "place") 251)]) 0) (List.toArray []))
noncomputable def o97 : Params → Obj := fun P => (PySem.Obj.mk (Value.type "dict") Option.none (Data.dict (List.toArray [(PySem.DictEntry.mk (PySem.PyData.keyHash P (Str.ofString "__module__")) (Value.str (Str.ofString "__module__") 234) (Value.str (Str.ofString "moduleyard.errors") 205)), (PySem.DictEntry.mk (PySem.PyData.keyHash P (Str.ofString "__firstlineno__")) (Value.str (Str.ofString "__firstlineno__") 238) (Value.int (13 : Int) 237)), (PySem.DictEntry.mk (PySem.PyData.keyHash P (Str.ofString "__init__")) (Value.str (Str.ofString "__init__") 248) (Value.ref 55)), (PySem.DictEntry.mk (PySem.PyData.keyHash P (Str.ofString "__static_attributes__")) (Value.str (Str.ofString "__static_attributes__") 252) (Value.ref 56)), (PySem.DictEntry.mk (PySem.PyData.keyHash P (Str.ofString "__doc__")) (Value.str (Str.ofString "__doc__") 253) Value.none)]) 2) (List.toArray []))
noncomputable def o98 : Params → Obj := fun P => (PySem.Obj.mk (Value.type "type") Option.none (Data.cls (PySem.ClassData.mk (Str.ofString "TrapError") [(Value.ref 38)] [(Value.ref 58), (Value.ref 38), (Value.type "Exception"), (Value.type "BaseException"), (Value.type "object")] 57 (Str.ofString "TrapError") Bool.true [] [] Bool.false Option.none Bool.false)) (List.toArray [(Option.some (Value.ref 42)), Option.none, (Option.some (Value.str (Str.ofString "TrapError") 227)), (Option.some (Value.str (Str.ofString "TrapError") 235)), (Option.some (Value.builtin "Exception.__new__")), (Option.some (Value.bool Bool.true))]))
noncomputable def o99 : Params → Obj := fun P => (PySem.Obj.mk (Value.type "super") Option.none (Data.fields (List.toArray [(Value.ref 58), (Value.ref 58), (Value.ref 58)])) (List.toArray []))
noncomputable def o100 : Params → Obj := fun P => (PySem.Obj.mk (Value.type "builtin_function_or_method") Option.none (Data.fields (List.toArray [(Value.builtin "object.__init_subclass__"), (Value.ref 58)])) (List.toArray []))
noncomputable def o101 : Params → Obj := fun P => (PySem.Obj.mk (Value.type "tuple") Option.none (Data.seq (List.toArray []) 0) (List.toArray []))
noncomputable def o102 : Params → Obj := fun P => (PySem.Obj.mk Value.none Option.none (Data.fields (List.toArray [])) (List.toArray []))
noncomputable def o103 : Params → Obj := fun P => (PySem.Obj.mk (Value.type "tuple") Option.none (Data.seq (List.toArray [(Value.str (Str.ofString "size") 263)]) 0) (List.toArray []))
noncomputable def o104 : Params → Obj := fun P => (PySem.Obj.mk (Value.type "tuple") Option.none (Data.seq (List.toArray []) 0) (List.toArray []))
noncomputable def o105 : Params → Obj := fnAt (st1 8) "list_number" Value.none Option.none (List.toArray []) 0 [] Value.none Value.none Value.none Value.none Option.none Value.none Value.none 0 rfl
noncomputable def o106 : Params → Obj := fun P => (PySem.Obj.mk (Value.type "code") Option.none (Data.fields (List.toArray [(Value.str (Str.ofString "list_number") 260), (Value.str (Str.ofString "list_number") 261), (Value.str (Str.ofString "/claim/cut.py") 262), (Value.int (21 : Int) 0), (Value.int (1 : Int) 0), (Value.int (0 : Int) 0), (Value.int (0 : Int) 0), (Value.int (3 : Int) 0), (Value.ref 61), (Value.bool Bool.true), (Value.int (181 : Int) 0), (Value.ref 62), Value.none, (Value.ref 63), (Value.ref 64), (Value.ref 65), (Value.int (264 : Int) 0), (Value.int (21 : Int) 0), (Value.str (Str.ofString "/claim/cut.py") 265)])) (List.toArray []))
noncomputable def o107 : Params → Obj := fnAt (st1 8) "list_number" (Value.type "function") Option.none (List.toArray []) 3 [] Value.none Value.none Value.none (Value.str (Str.ofString "moduleyard.heap") 256) Option.none (Value.ref 66) Value.none 0 rfl
noncomputable def o109 : Params → Obj := fun P => (PySem.Obj.mk Value.none Option.none (Data.fields (List.toArray [(Value.int (1 : Int) 0), (Value.int (0 : Int) 0), (Value.ref 20), (Value.int (5 : Int) 0), (Value.int (0 : Int) 0), (Value.ref 27), (Value.int (11 : Int) 0), (Value.int (0 : Int) 0), (Value.ref 34), (Value.int (13 : Int) 0), (Value.int (0 : Int) 0), (Value.ref 47), (Value.int (21 : Int) 0), (Value.int (0 : Int) 0), (Value.ref 66), (Value.int (29 : Int) 0), (Value.int (0 : Int) 0), (Value.ref 73)])) (List.toArray []))
noncomputable def o110 : Params → Obj := fun P => (PySem.Obj.mk (Value.type "tuple") Option.none (Data.seq (List.toArray []) 0) (List.toArray []))
noncomputable def o111 : Params → Obj := fun P => (PySem.Obj.mk (Value.type "builtin_function_or_method") Option.none (Data.fields (List.toArray [(Value.builtin "type.__prepare__"), (Value.type "type")])) (List.toArray []))
noncomputable def o112 : Params → Obj := fun P => (PySem.Obj.mk (Value.type "dict") Option.none (Data.dict (List.toArray [(PySem.DictEntry.mk (PySem.PyData.keyHash P (Str.ofString "__module__")) (Value.str (Str.ofString "__module__") 274) (Value.str (Str.ofString "moduleyard.heap") 256)), (PySem.DictEntry.mk (PySem.PyData.keyHash P (Str.ofString "__qualname__")) (Value.str (Str.ofString "__qualname__") 276) (Value.str (Str.ofString "Heap") 275)), (PySem.DictEntry.mk (PySem.PyData.keyHash P (Str.ofString "__firstlineno__")) (Value.str (Str.ofString "__firstlineno__") 278) (Value.int (29 : Int) 277)), (PySem.DictEntry.mk (PySem.PyData.keyHash P (Str.ofString "__init__")) (Value.str (Str.ofString "__init__") 288) (Value.ref 81)), (PySem.DictEntry.mk (PySem.PyData.keyHash P (Str.ofString "put_free")) (Value.str (Str.ofString "put_free") 298) (Value.ref 88)), (PySem.DictEntry.mk (PySem.PyData.keyHash P (Str.ofString "is_free")) (Value.str (Str.ofString "is_free") 306) (Value.ref 95)), (PySem.DictEntry.mk (PySem.PyData.keyHash P (Str.ofString "descriptor")) (Value.str (Str.ofString "descriptor") 314) (Value.ref 102)), (PySem.DictEntry.mk (PySem.PyData.keyHash P (Str.ofString "size_of")) (Value.str (Str.ofString "size_of") 322) (Value.ref 109)), (PySem.DictEntry.mk (PySem.PyData.keyHash P (Str.ofString "take_free")) (Value.str (Str.ofString "take_free") 330) (Value.ref 116)), (PySem.DictEntry.mk (PySem.PyData.keyHash P (Str.ofString "alloc")) (Value.str (Str.ofString "alloc") 338) (Value.ref 123)), (PySem.DictEntry.mk (PySem.PyData.keyHash P (Str.ofString "blocks")) (Value.str (Str.ofString "blocks") 345) (Value.ref 130)), (PySem.DictEntry.mk (PySem.PyData.keyHash P (Str.ofString "block_of")) (Value.str (Str.ofString "block_of") 353) (Value.ref 137)), (PySem.DictEntry.mk (PySem.PyData.keyHash P (Str.ofString "__static_attributes__")) (Value.str (Str.ofString "__static_attributes__") 358) (Value.ref 138))]) 13) (List.toArray []))
noncomputable def o113 : Params → Obj := fun P => (PySem.Obj.mk (Value.type "tuple") Option.none (Data.seq (List.toArray []) 0) (List.toArray []))
noncomputable def o114 : Params → Obj := fun P => (PySem.Obj.mk Value.none Option.none (Data.fields (List.toArray [(Value.int (31 : Int) 0), (Value.int (4 : Int) 0), (Value.ref 80), (Value.int (39 : Int) 0), (Value.int (4 : Int) 0), (Value.ref 87), (Value.int (45 : Int) 0), (Value.int (4 : Int) 0), (Value.ref 94), (Value.int (48 : Int) 0), (Value.int (4 : Int) 0), (Value.ref 101), (Value.int (51 : Int) 0), (Value.int (4 : Int) 0), (Value.ref 108), (Value.int (54 : Int) 0), (Value.int (4 : Int) 0), (Value.ref 115), (Value.int (57 : Int) 0), (Value.int (4 : Int) 0), (Value.ref 122), (Value.int (60 : Int) 0), (Value.int (4 : Int) 0), (Value.ref 129), (Value.int (63 : Int) 0), (Value.int (4 : Int) 0), (Value.ref 136)])) (List.toArray []))
noncomputable def o115 : Params → Obj := fun P => (PySem.Obj.mk (Value.type "code") Option.none (Data.fields (List.toArray [(Value.str (Str.ofString "Heap") 269), (Value.str (Str.ofString "Heap") 270), (Value.str (Str.ofString "/claim/cut.py") 271), (Value.int (29 : Int) 0), (Value.int (0 : Int) 0), (Value.int (0 : Int) 0), (Value.int (0 : Int) 0), (Value.int (0 : Int) 0), (Value.ref 71), (Value.bool Bool.false), (Value.int (181 : Int) 0), (Value.ref 72), Value.none, Value.none, Value.none, Value.none, (Value.int (272 : Int) 0), (Value.int (29 : Int) 0), (Value.str (Str.ofString "/claim/cut.py") 273)])) (List.toArray []))
noncomputable def o116 : Params → Obj := fun P => (PySem.Obj.mk (Value.type "frame") Option.none Data.plain (List.toArray [(Option.some (Value.ref 73)), (Option.some (Value.ref 3)), (Option.some (Value.ref 70)), Option.none, (Option.some (Value.str (Str.ofString "moduleyard.heap") 256)), Option.none, (Option.some (Value.ref 0))]))
noncomputable def o117 : Params → Obj := fun P => (PySem.Obj.mk (Value.type "tuple") Option.none (Data.seq (List.toArray []) 0) (List.toArray []))
noncomputable def o118 : Params → Obj := fun P => (PySem.Obj.mk Value.none Option.none (Data.fields (List.toArray [])) (List.toArray []))
noncomputable def o119 : Params → Obj := fun P => (PySem.Obj.mk (Value.type "tuple") Option.none (Data.seq (List.toArray [(Value.str (Str.ofString "self") 282), (Value.str (Str.ofString "memory") 283), (Value.str (Str.ofString "start") 284), (Value.str (Str.ofString "limit") 285)]) 0) (List.toArray []))
noncomputable def o120 : Params → Obj := fun P => (PySem.Obj.mk (Value.type "tuple") Option.none (Data.seq (List.toArray []) 0) (List.toArray []))
noncomputable def o121 : Params → Obj := fnAt (st2 9 0) "Heap.__init__" Value.none Option.none (List.toArray []) 0 [] Value.none Value.none Value.none Value.none Option.none Value.none Value.none 0 rfl
noncomputable def o122 : Params → Obj := fun P => (PySem.Obj.mk (Value.type "code") Option.none (Data.fields (List.toArray [(Value.str (Str.ofString "__init__") 279), (Value.str (Str.ofString "Heap.__init__") 280), (Value.str (Str.ofString "/claim/cut.py") 281), (Value.int (31 : Int) 0), (Value.int (4 : Int) 0), (Value.int (0 : Int) 0), (Value.int (0 : Int) 0), (Value.int (3 : Int) 0), (Value.ref 75), (Value.bool Bool.true), (Value.int (181 : Int) 0), (Value.ref 76), Value.none, (Value.ref 77), (Value.ref 78), (Value.ref 79), (Value.int (286 : Int) 0), (Value.int (31 : Int) 0), (Value.str (Str.ofString "/claim/cut.py") 287)])) (List.toArray []))
noncomputable def o123 : Params → Obj := fnAt (st2 9 0) "Heap.__init__" (Value.type "function") Option.none (List.toArray []) 3 [] Value.none Value.none Value.none (Value.str (Str.ofString "moduleyard.heap") 256) Option.none (Value.ref 80) Value.none 0 rfl
noncomputable def o124 : Params → Obj := fun P => (PySem.Obj.mk (Value.type "tuple") Option.none (Data.seq (List.toArray []) 0) (List.toArray []))
noncomputable def o125 : Params → Obj := fun P => (PySem.Obj.mk Value.none Option.none (Data.fields (List.toArray [])) (List.toArray []))
noncomputable def o126 : Params → Obj := fun P => (PySem.Obj.mk (Value.type "tuple") Option.none (Data.seq (List.toArray [(Value.str (Str.ofString "self") 292), (Value.str (Str.ofString "block") 293), (Value.str (Str.ofString "size") 294), (Value.str (Str.ofString "number") 295)]) 0) (List.toArray []))
noncomputable def o127 : Params → Obj := fun P => (PySem.Obj.mk (Value.type "tuple") Option.none (Data.seq (List.toArray []) 0) (List.toArray []))
noncomputable def o128 : Params → Obj := fnAt (st2 9 1) "Heap.put_free" Value.none Option.none (List.toArray []) 0 [] Value.none Value.none Value.none Value.none Option.none Value.none Value.none 0 rfl
noncomputable def o129 : Params → Obj := fun P => (PySem.Obj.mk (Value.type "code") Option.none (Data.fields (List.toArray [(Value.str (Str.ofString "put_free") 289), (Value.str (Str.ofString "Heap.put_free") 290), (Value.str (Str.ofString "/claim/cut.py") 291), (Value.int (39 : Int) 0), (Value.int (3 : Int) 0), (Value.int (0 : Int) 0), (Value.int (0 : Int) 0), (Value.int (3 : Int) 0), (Value.ref 82), (Value.bool Bool.true), (Value.int (181 : Int) 0), (Value.ref 83), Value.none, (Value.ref 84), (Value.ref 85), (Value.ref 86), (Value.int (296 : Int) 0), (Value.int (39 : Int) 0), (Value.str (Str.ofString "/claim/cut.py") 297)])) (List.toArray []))
noncomputable def o130 : Params → Obj := fnAt (st2 9 1) "Heap.put_free" (Value.type "function") Option.none (List.toArray []) 3 [] Value.none Value.none Value.none (Value.str (Str.ofString "moduleyard.heap") 256) Option.none (Value.ref 87) Value.none 0 rfl
noncomputable def o131 : Params → Obj := fun P => (PySem.Obj.mk (Value.type "tuple") Option.none (Data.seq (List.toArray []) 0) (List.toArray []))
noncomputable def o132 : Params → Obj := fun P => (PySem.Obj.mk Value.none Option.none (Data.fields (List.toArray [])) (List.toArray []))
noncomputable def o133 : Params → Obj := fun P => (PySem.Obj.mk (Value.type "tuple") Option.none (Data.seq (List.toArray [(Value.str (Str.ofString "self") 302), (Value.str (Str.ofString "block") 303)]) 0) (List.toArray []))
noncomputable def o134 : Params → Obj := fun P => (PySem.Obj.mk (Value.type "tuple") Option.none (Data.seq (List.toArray []) 0) (List.toArray []))
noncomputable def o135 : Params → Obj := fnAt (st2 9 2) "Heap.is_free" Value.none Option.none (List.toArray []) 0 [] Value.none Value.none Value.none Value.none Option.none Value.none Value.none 0 rfl
noncomputable def o136 : Params → Obj := fun P => (PySem.Obj.mk (Value.type "code") Option.none (Data.fields (List.toArray [(Value.str (Str.ofString "is_free") 299), (Value.str (Str.ofString "Heap.is_free") 300), (Value.str (Str.ofString "/claim/cut.py") 301), (Value.int (45 : Int) 0), (Value.int (2 : Int) 0), (Value.int (0 : Int) 0), (Value.int (0 : Int) 0), (Value.int (3 : Int) 0), (Value.ref 89), (Value.bool Bool.true), (Value.int (181 : Int) 0), (Value.ref 90), Value.none, (Value.ref 91), (Value.ref 92), (Value.ref 93), (Value.int (304 : Int) 0), (Value.int (45 : Int) 0), (Value.str (Str.ofString "/claim/cut.py") 305)])) (List.toArray []))
noncomputable def o137 : Params → Obj := fnAt (st2 9 2) "Heap.is_free" (Value.type "function") Option.none (List.toArray []) 3 [] Value.none Value.none Value.none (Value.str (Str.ofString "moduleyard.heap") 256) Option.none (Value.ref 94) Value.none 0 rfl
noncomputable def o138 : Params → Obj := fun P => (PySem.Obj.mk (Value.type "tuple") Option.none (Data.seq (List.toArray []) 0) (List.toArray []))
noncomputable def o139 : Params → Obj := fun P => (PySem.Obj.mk Value.none Option.none (Data.fields (List.toArray [])) (List.toArray []))
noncomputable def o140 : Params → Obj := fun P => (PySem.Obj.mk (Value.type "tuple") Option.none (Data.seq (List.toArray [(Value.str (Str.ofString "self") 310), (Value.str (Str.ofString "block") 311)]) 0) (List.toArray []))
noncomputable def o141 : Params → Obj := fun P => (PySem.Obj.mk (Value.type "tuple") Option.none (Data.seq (List.toArray []) 0) (List.toArray []))
noncomputable def o142 : Params → Obj := fnAt (st2 9 3) "Heap.descriptor" Value.none Option.none (List.toArray []) 0 [] Value.none Value.none Value.none Value.none Option.none Value.none Value.none 0 rfl
noncomputable def o143 : Params → Obj := fun P => (PySem.Obj.mk (Value.type "code") Option.none (Data.fields (List.toArray [(Value.str (Str.ofString "descriptor") 307), (Value.str (Str.ofString "Heap.descriptor") 308), (Value.str (Str.ofString "/claim/cut.py") 309), (Value.int (48 : Int) 0), (Value.int (2 : Int) 0), (Value.int (0 : Int) 0), (Value.int (0 : Int) 0), (Value.int (3 : Int) 0), (Value.ref 96), (Value.bool Bool.true), (Value.int (181 : Int) 0), (Value.ref 97), Value.none, (Value.ref 98), (Value.ref 99), (Value.ref 100), (Value.int (312 : Int) 0), (Value.int (48 : Int) 0), (Value.str (Str.ofString "/claim/cut.py") 313)])) (List.toArray []))
noncomputable def o144 : Params → Obj := fnAt (st2 9 3) "Heap.descriptor" (Value.type "function") Option.none (List.toArray []) 3 [] Value.none Value.none Value.none (Value.str (Str.ofString "moduleyard.heap") 256) Option.none (Value.ref 101) Value.none 0 rfl
noncomputable def o145 : Params → Obj := fun P => (PySem.Obj.mk (Value.type "tuple") Option.none (Data.seq (List.toArray []) 0) (List.toArray []))
noncomputable def o146 : Params → Obj := fun P => (PySem.Obj.mk Value.none Option.none (Data.fields (List.toArray [])) (List.toArray []))
noncomputable def o147 : Params → Obj := fun P => (PySem.Obj.mk (Value.type "tuple") Option.none (Data.seq (List.toArray [(Value.str (Str.ofString "self") 318), (Value.str (Str.ofString "block") 319)]) 0) (List.toArray []))
noncomputable def o148 : Params → Obj := fun P => (PySem.Obj.mk (Value.type "tuple") Option.none (Data.seq (List.toArray []) 0) (List.toArray []))
noncomputable def o149 : Params → Obj := fnAt (st2 9 4) "Heap.size_of" Value.none Option.none (List.toArray []) 0 [] Value.none Value.none Value.none Value.none Option.none Value.none Value.none 0 rfl
noncomputable def o150 : Params → Obj := fun P => (PySem.Obj.mk (Value.type "code") Option.none (Data.fields (List.toArray [(Value.str (Str.ofString "size_of") 315), (Value.str (Str.ofString "Heap.size_of") 316), (Value.str (Str.ofString "/claim/cut.py") 317), (Value.int (51 : Int) 0), (Value.int (2 : Int) 0), (Value.int (0 : Int) 0), (Value.int (0 : Int) 0), (Value.int (3 : Int) 0), (Value.ref 103), (Value.bool Bool.true), (Value.int (181 : Int) 0), (Value.ref 104), Value.none, (Value.ref 105), (Value.ref 106), (Value.ref 107), (Value.int (320 : Int) 0), (Value.int (51 : Int) 0), (Value.str (Str.ofString "/claim/cut.py") 321)])) (List.toArray []))
noncomputable def o151 : Params → Obj := fnAt (st2 9 4) "Heap.size_of" (Value.type "function") Option.none (List.toArray []) 3 [] Value.none Value.none Value.none (Value.str (Str.ofString "moduleyard.heap") 256) Option.none (Value.ref 108) Value.none 0 rfl
noncomputable def o152 : Params → Obj := fun P => (PySem.Obj.mk (Value.type "tuple") Option.none (Data.seq (List.toArray []) 0) (List.toArray []))
noncomputable def o153 : Params → Obj := fun P => (PySem.Obj.mk Value.none Option.none (Data.fields (List.toArray [])) (List.toArray []))
noncomputable def o154 : Params → Obj := fun P => (PySem.Obj.mk (Value.type "tuple") Option.none (Data.seq (List.toArray [(Value.str (Str.ofString "self") 326), (Value.str (Str.ofString "size") 327)]) 0) (List.toArray []))
noncomputable def o155 : Params → Obj := fun P => (PySem.Obj.mk (Value.type "tuple") Option.none (Data.seq (List.toArray []) 0) (List.toArray []))
noncomputable def o156 : Params → Obj := fnAt (st2 9 5) "Heap.take_free" Value.none Option.none (List.toArray []) 0 [] Value.none Value.none Value.none Value.none Option.none Value.none Value.none 0 rfl
noncomputable def o157 : Params → Obj := fun P => (PySem.Obj.mk (Value.type "code") Option.none (Data.fields (List.toArray [(Value.str (Str.ofString "take_free") 323), (Value.str (Str.ofString "Heap.take_free") 324), (Value.str (Str.ofString "/claim/cut.py") 325), (Value.int (54 : Int) 0), (Value.int (2 : Int) 0), (Value.int (0 : Int) 0), (Value.int (0 : Int) 0), (Value.int (3 : Int) 0), (Value.ref 110), (Value.bool Bool.true), (Value.int (181 : Int) 0), (Value.ref 111), Value.none, (Value.ref 112), (Value.ref 113), (Value.ref 114), (Value.int (328 : Int) 0), (Value.int (54 : Int) 0), (Value.str (Str.ofString "/claim/cut.py") 329)])) (List.toArray []))
noncomputable def o158 : Params → Obj := fnAt (st2 9 5) "Heap.take_free" (Value.type "function") Option.none (List.toArray []) 3 [] Value.none Value.none Value.none (Value.str (Str.ofString "moduleyard.heap") 256) Option.none (Value.ref 115) Value.none 0 rfl
noncomputable def o159 : Params → Obj := fun P => (PySem.Obj.mk (Value.type "tuple") Option.none (Data.seq (List.toArray []) 0) (List.toArray []))
noncomputable def o160 : Params → Obj := fun P => (PySem.Obj.mk Value.none Option.none (Data.fields (List.toArray [])) (List.toArray []))
noncomputable def o161 : Params → Obj := fun P => (PySem.Obj.mk (Value.type "tuple") Option.none (Data.seq (List.toArray [(Value.str (Str.ofString "self") 334), (Value.str (Str.ofString "descriptor") 335)]) 0) (List.toArray []))
noncomputable def o162 : Params → Obj := fun P => (PySem.Obj.mk (Value.type "tuple") Option.none (Data.seq (List.toArray []) 0) (List.toArray []))
noncomputable def o163 : Params → Obj := fnAt (st2 9 6) "Heap.alloc" Value.none Option.none (List.toArray []) 0 [] Value.none Value.none Value.none Value.none Option.none Value.none Value.none 0 rfl
noncomputable def o164 : Params → Obj := fun P => (PySem.Obj.mk (Value.type "code") Option.none (Data.fields (List.toArray [(Value.str (Str.ofString "alloc") 331), (Value.str (Str.ofString "Heap.alloc") 332), (Value.str (Str.ofString "/claim/cut.py") 333), (Value.int (57 : Int) 0), (Value.int (2 : Int) 0), (Value.int (0 : Int) 0), (Value.int (0 : Int) 0), (Value.int (3 : Int) 0), (Value.ref 117), (Value.bool Bool.true), (Value.int (181 : Int) 0), (Value.ref 118), Value.none, (Value.ref 119), (Value.ref 120), (Value.ref 121), (Value.int (336 : Int) 0), (Value.int (57 : Int) 0), (Value.str (Str.ofString "/claim/cut.py") 337)])) (List.toArray []))
noncomputable def o165 : Params → Obj := fnAt (st2 9 6) "Heap.alloc" (Value.type "function") Option.none (List.toArray []) 3 [] Value.none Value.none Value.none (Value.str (Str.ofString "moduleyard.heap") 256) Option.none (Value.ref 122) Value.none 0 rfl
noncomputable def o166 : Params → Obj := fun P => (PySem.Obj.mk (Value.type "tuple") Option.none (Data.seq (List.toArray []) 0) (List.toArray []))
noncomputable def o167 : Params → Obj := fun P => (PySem.Obj.mk Value.none Option.none (Data.fields (List.toArray [])) (List.toArray []))
noncomputable def o168 : Params → Obj := fun P => (PySem.Obj.mk (Value.type "tuple") Option.none (Data.seq (List.toArray [(Value.str (Str.ofString "self") 342)]) 0) (List.toArray []))
noncomputable def o169 : Params → Obj := fun P => (PySem.Obj.mk (Value.type "tuple") Option.none (Data.seq (List.toArray []) 0) (List.toArray []))
noncomputable def o170 : Params → Obj := fnAt (st2 9 7) "Heap.blocks" Value.none Option.none (List.toArray []) 0 [] Value.none Value.none Value.none Value.none Option.none Value.none Value.none 0 rfl
noncomputable def o171 : Params → Obj := fun P => (PySem.Obj.mk (Value.type "code") Option.none (Data.fields (List.toArray [(Value.str (Str.ofString "blocks") 339), (Value.str (Str.ofString "Heap.blocks") 340), (Value.str (Str.ofString "/claim/cut.py") 341), (Value.int (60 : Int) 0), (Value.int (1 : Int) 0), (Value.int (0 : Int) 0), (Value.int (0 : Int) 0), (Value.int (3 : Int) 0), (Value.ref 124), (Value.bool Bool.true), (Value.int (181 : Int) 0), (Value.ref 125), Value.none, (Value.ref 126), (Value.ref 127), (Value.ref 128), (Value.int (343 : Int) 0), (Value.int (60 : Int) 0), (Value.str (Str.ofString "/claim/cut.py") 344)])) (List.toArray []))
noncomputable def o172 : Params → Obj := fnAt (st2 9 7) "Heap.blocks" (Value.type "function") Option.none (List.toArray []) 3 [] Value.none Value.none Value.none (Value.str (Str.ofString "moduleyard.heap") 256) Option.none (Value.ref 129) Value.none 0 rfl
noncomputable def o173 : Params → Obj := fun P => (PySem.Obj.mk (Value.type "tuple") Option.none (Data.seq (List.toArray []) 0) (List.toArray []))
noncomputable def o174 : Params → Obj := fun P => (PySem.Obj.mk Value.none Option.none (Data.fields (List.toArray [])) (List.toArray []))
noncomputable def o175 : Params → Obj := fun P => (PySem.Obj.mk (Value.type "tuple") Option.none (Data.seq (List.toArray [(Value.str (Str.ofString "self") 349), (Value.str (Str.ofString "address") 350)]) 0) (List.toArray []))
noncomputable def o176 : Params → Obj := fun P => (PySem.Obj.mk (Value.type "tuple") Option.none (Data.seq (List.toArray []) 0) (List.toArray []))
noncomputable def o177 : Params → Obj := fnAt (st2 9 8) "Heap.block_of" Value.none Option.none (List.toArray []) 0 [] Value.none Value.none Value.none Value.none Option.none Value.none Value.none 0 rfl
noncomputable def o178 : Params → Obj := fun P => (PySem.Obj.mk (Value.type "code") Option.none (Data.fields (List.toArray [(Value.str (Str.ofString "block_of") 346), (Value.str (Str.ofString "Heap.block_of") 347), (Value.str (Str.ofString "/claim/cut.py") 348), (Value.int (63 : Int) 0), (Value.int (2 : Int) 0), (Value.int (0 : Int) 0), (Value.int (0 : Int) 0), (Value.int (3 : Int) 0), (Value.ref 131), (Value.bool Bool.true), (Value.int (181 : Int) 0), (Value.ref 132), Value.none, (Value.ref 133), (Value.ref 134), (Value.ref 135), (Value.int (351 : Int) 0), (Value.int (63 : Int) 0), (Value.str (Str.ofString "/claim/cut.py") 352)])) (List.toArray []))
noncomputable def o179 : Params → Obj := fnAt (st2 9 8) "Heap.block_of" (Value.type "function") Option.none (List.toArray []) 3 [] Value.none Value.none Value.none (Value.str (Str.ofString "moduleyard.heap") 256) Option.none (Value.ref 136) Value.none 0 rfl
noncomputable def o180 : Params → Obj := fun P => (PySem.Obj.mk (Value.type "tuple") Option.none (Data.seq (List.toArray [(Value.str (Str.ofString "free") 354), (Value.str (Str.ofString "limit") 355), (Value.str (Str.ofString "memory") 356), (Value.str (Str.ofString "start") 357)]) 0) (List.toArray []))
noncomputable def o181 : Params → Obj := fun P => (PySem.Obj.mk (Value.type "dict") Option.none (Data.dict (List.toArray [(PySem.DictEntry.mk (PySem.PyData.keyHash P (Str.ofString "__module__")) (Value.str (Str.ofString "__module__") 274) (Value.str (Str.ofString "moduleyard.heap") 256)), (PySem.DictEntry.mk (PySem.PyData.keyHash P (Str.ofString "__firstlineno__")) (Value.str (Str.ofString "__firstlineno__") 278) (Value.int (29 : Int) 277)), (PySem.DictEntry.mk (PySem.PyData.keyHash P (Str.ofString "__init__")) (Value.str (Str.ofString "__init__") 288) (Value.ref 81)), (PySem.DictEntry.mk (PySem.PyData.keyHash P (Str.ofString "put_free")) (Value.str (Str.ofString "put_free") 298) (Value.ref 88)), (PySem.DictEntry.mk (PySem.PyData.keyHash P (Str.ofString "is_free")) (Value.str (Str.ofString "is_free") 306) (Value.ref 95)), (PySem.DictEntry.mk (PySem.PyData.keyHash P (Str.ofString "descriptor")) (Value.str (Str.ofString "descriptor") 314) (Value.ref 102)), (PySem.DictEntry.mk (PySem.PyData.keyHash P (Str.ofString "size_of")) (Value.str (Str.ofString "size_of") 322) (Value.ref 109)), (PySem.DictEntry.mk (PySem.PyData.keyHash P (Str.ofString "take_free")) (Value.str (Str.ofString "take_free") 330) (Value.ref 116)), (PySem.DictEntry.mk (PySem.PyData.keyHash P (Str.ofString "alloc")) (Value.str (Str.ofString "alloc") 338) (Value.ref 123)), (PySem.DictEntry.mk (PySem.PyData.keyHash P (Str.ofString "blocks")) (Value.str (Str.ofString "blocks") 345) (Value.ref 130)), (PySem.DictEntry.mk (PySem.PyData.keyHash P (Str.ofString "block_of")) (Value.str (Str.ofString "block_of") 353) (Value.ref 137)), (PySem.DictEntry.mk (PySem.PyData.keyHash P (Str.ofString "__static_attributes__")) (Value.str (Str.ofString "__static_attributes__") 358) (Value.ref 138)), (PySem.DictEntry.mk (PySem.PyData.keyHash P (Str.ofString "__dict__")) (Value.str (Str.ofString "__dict__") 360) (Value.ref 141)), (PySem.DictEntry.mk (PySem.PyData.keyHash P (Str.ofString "__weakref__")) (Value.str (Str.ofString "__weakref__") 362) (Value.ref 142)), (PySem.DictEntry.mk (PySem.PyData.keyHash P (Str.ofString "__doc__")) (Value.str (Str.ofString "__doc__") 363) Value.none)]) 4) (List.toArray []))
noncomputable def o182 : Params → Obj := fun P => (PySem.Obj.mk (Value.type "type") Option.none (Data.cls (PySem.ClassData.mk (Str.ofString "Heap") [(Value.type "object")] [(Value.ref 140), (Value.type "object")] 139 (Str.ofString "Heap") Bool.true [] [] Bool.false Option.none Bool.false)) (List.toArray [Option.none, Option.none, (Option.some (Value.str (Str.ofString "Heap") 267)), (Option.some (Value.str (Str.ofString "Heap") 275)), (Option.some (Value.builtin "object.__new__")), (Option.some (Value.bool Bool.true))]))
noncomputable def o183 : Params → Obj := fun P => (PySem.Obj.mk (Value.type "getset_descriptor") Option.none (Data.fields (List.toArray [(Value.str (Str.ofString "__dict__") 359), (Value.ref 140), (Value.builtin "function.__dict__"), (Value.builtin "function.__dict__#set")])) (List.toArray []))
noncomputable def o184 : Params → Obj := fun P => (PySem.Obj.mk (Value.type "getset_descriptor") Option.none (Data.fields (List.toArray [(Value.str (Str.ofString "__weakref__") 361), (Value.ref 140), (Value.builtin "ExceptionGroup.__weakref__"), Value.none])) (List.toArray []))
noncomputable def o185 : Params → Obj := fun P => (PySem.Obj.mk (Value.type "super") Option.none (Data.fields (List.toArray [(Value.ref 140), (Value.ref 140), (Value.ref 140)])) (List.toArray []))
noncomputable def o186 : Params → Obj := fun P => (PySem.Obj.mk (Value.type "builtin_function_or_method") Option.none (Data.fields (List.toArray [(Value.builtin "object.__init_subclass__"), (Value.ref 140)])) (List.toArray []))
noncomputable def o187 : Params → Obj := fun P => (PySem.Obj.mk (Value.type "dict") Option.none (Data.dict (List.toArray [(PySem.DictEntry.mk (PySem.PyData.keyHash P (Str.ofString "__name__")) (Value.str (Str.ofString "__name__") 165) (Value.str (Str.ofString "moduleyard.cpu") 366)), (PySem.DictEntry.mk (PySem.PyData.keyHash P (Str.ofString "__doc__")) (Value.str (Str.ofString "__doc__") 166) Value.none), (PySem.DictEntry.mk (PySem.PyData.keyHash P (Str.ofString "__package__")) (Value.str (Str.ofString "__package__") 167) Value.none), (PySem.DictEntry.mk (PySem.PyData.keyHash P (Str.ofString "__loader__")) (Value.str (Str.ofString "__loader__") 168) (Value.builtin "__main__.__loader__#opaque")), (PySem.DictEntry.mk (PySem.PyData.keyHash P (Str.ofString "__spec__")) (Value.str (Str.ofString "__spec__") 169) Value.none), (PySem.DictEntry.mk (PySem.PyData.keyHash P (Str.ofString "__annotations__")) (Value.str (Str.ofString "__annotations__") 170) (Value.ref 6)), (PySem.DictEntry.mk (PySem.PyData.keyHash P (Str.ofString "__builtins__")) (Value.str (Str.ofString "__builtins__") 171) (Value.ref 4)), (PySem.DictEntry.mk (PySem.PyData.keyHash P (Str.ofString "__file__")) (Value.str (Str.ofString "__file__") 173) (Value.str (Str.ofString "/claim/cut.py") 172)), (PySem.DictEntry.mk (PySem.PyData.keyHash P (Str.ofString "__cached__")) (Value.str (Str.ofString "__cached__") 174) Value.none), (PySem.DictEntry.mk (PySem.PyData.keyHash P (Str.ofString "_wall")) (Value.str (Str.ofString "_wall") 193) (Value.ref 21)), (PySem.DictEntry.mk (PySem.PyData.keyHash P (Str.ofString "data_room")) (Value.str (Str.ofString "data_room") 204) (Value.ref 28)), (PySem.DictEntry.mk (PySem.PyData.keyHash P (Str.ofString "YardError")) (Value.str (Str.ofString "YardError") 226) (Value.ref 38)), (PySem.DictEntry.mk (PySem.PyData.keyHash P (Str.ofString "TrapError")) (Value.str (Str.ofString "TrapError") 255) (Value.ref 58)), (PySem.DictEntry.mk (PySem.PyData.keyHash P (Str.ofString "LISTS")) (Value.str (Str.ofString "LISTS") 259) (Value.int (4 : Int) 258)), (PySem.DictEntry.mk (PySem.PyData.keyHash P (Str.ofString "list_number")) (Value.str (Str.ofString "list_number") 266) (Value.ref 67)), (PySem.DictEntry.mk (PySem.PyData.keyHash P (Str.ofString "Heap")) (Value.str (Str.ofString "Heap") 365) (Value.ref 140))]) 16) (List.toArray []))
noncomputable def o190 : Params → Obj := fun P => (PySem.Obj.mk Value.none Option.none (Data.fields (List.toArray [(Value.int (1 : Int) 0), (Value.int (0 : Int) 0), (Value.ref 20), (Value.int (5 : Int) 0), (Value.int (0 : Int) 0), (Value.ref 27), (Value.int (11 : Int) 0), (Value.int (0 : Int) 0), (Value.ref 34), (Value.int (13 : Int) 0), (Value.int (0 : Int) 0), (Value.ref 47), (Value.int (21 : Int) 0), (Value.int (0 : Int) 0), (Value.ref 66), (Value.int (29 : Int) 0), (Value.int (0 : Int) 0), (Value.ref 73), (Value.int (66 : Int) 0), (Value.int (0 : Int) 0), (Value.ref 150)])) (List.toArray []))
noncomputable def o191 : Params → Obj := fun P => (PySem.Obj.mk (Value.type "tuple") Option.none (Data.seq (List.toArray []) 0) (List.toArray []))
noncomputable def o192 : Params → Obj := fun P => (PySem.Obj.mk (Value.type "builtin_function_or_method") Option.none (Data.fields (List.toArray [(Value.builtin "type.__prepare__"), (Value.type "type")])) (List.toArray []))
noncomputable def o193 : Params → Obj := fun P => (PySem.Obj.mk (Value.type "dict") Option.none (Data.dict (List.toArray [(PySem.DictEntry.mk (PySem.PyData.keyHash P (Str.ofString "__module__")) (Value.str (Str.ofString "__module__") 375) (Value.str (Str.ofString "moduleyard.cpu") 366)), (PySem.DictEntry.mk (PySem.PyData.keyHash P (Str.ofString "__qualname__")) (Value.str (Str.ofString "__qualname__") 377) (Value.str (Str.ofString "Cpu") 376)), (PySem.DictEntry.mk (PySem.PyData.keyHash P (Str.ofString "__firstlineno__")) (Value.str (Str.ofString "__firstlineno__") 379) (Value.int (66 : Int) 378)), (PySem.DictEntry.mk (PySem.PyData.keyHash P (Str.ofString "__init__")) (Value.str (Str.ofString "__init__") 387) (Value.ref 158)), (PySem.DictEntry.mk (PySem.PyData.keyHash P (Str.ofString "step")) (Value.str (Str.ofString "step") 394) (Value.ref 165)), (PySem.DictEntry.mk (PySem.PyData.keyHash P (Str.ofString "transfer")) (Value.str (Str.ofString "transfer") 404) (Value.ref 172)), (PySem.DictEntry.mk (PySem.PyData.keyHash P (Str.ofString "flags")) (Value.str (Str.ofString "flags") 411) (Value.ref 179)), (PySem.DictEntry.mk (PySem.PyData.keyHash P (Str.ofString "branch")) (Value.str (Str.ofString "branch") 420) (Value.ref 186)), (PySem.DictEntry.mk (PySem.PyData.keyHash P (Str.ofString "set_result")) (Value.str (Str.ofString "set_result") 429) (Value.ref 193)), (PySem.DictEntry.mk (PySem.PyData.keyHash P (Str.ofString "calculate")) (Value.str (Str.ofString "calculate") 438) (Value.ref 200)), (PySem.DictEntry.mk (PySem.PyData.keyHash P (Str.ofString "run")) (Value.str (Str.ofString "run") 446) (Value.ref 207)), (PySem.DictEntry.mk (PySem.PyData.keyHash P (Str.ofString "__static_attributes__")) (Value.str (Str.ofString "__static_attributes__") 456) (Value.ref 208))]) 12) (List.toArray []))
noncomputable def o194 : Params → Obj := fun P => (PySem.Obj.mk (Value.type "tuple") Option.none (Data.seq (List.toArray []) 0) (List.toArray []))
noncomputable def o195 : Params → Obj := fun P => (PySem.Obj.mk Value.none Option.none (Data.fields (List.toArray [(Value.int (68 : Int) 0), (Value.int (4 : Int) 0), (Value.ref 157), (Value.int (79 : Int) 0), (Value.int (4 : Int) 0), (Value.ref 164), (Value.int (82 : Int) 0), (Value.int (4 : Int) 0), (Value.ref 171), (Value.int (85 : Int) 0), (Value.int (4 : Int) 0), (Value.ref 178), (Value.int (88 : Int) 0), (Value.int (4 : Int) 0), (Value.ref 185), (Value.int (91 : Int) 0), (Value.int (4 : Int) 0), (Value.ref 192), (Value.int (94 : Int) 0), (Value.int (4 : Int) 0), (Value.ref 199), (Value.int (97 : Int) 0), (Value.int (4 : Int) 0), (Value.ref 206)])) (List.toArray []))
noncomputable def o196 : Params → Obj := fun P => (PySem.Obj.mk (Value.type "code") Option.none (Data.fields (List.toArray [(Value.str (Str.ofString "Cpu") 370), (Value.str (Str.ofString "Cpu") 371), (Value.str (Str.ofString "/claim/cut.py") 372), (Value.int (66 : Int) 0), (Value.int (0 : Int) 0), (Value.int (0 : Int) 0), (Value.int (0 : Int) 0), (Value.int (0 : Int) 0), (Value.ref 148), (Value.bool Bool.false), (Value.int (181 : Int) 0), (Value.ref 149), Value.none, Value.none, Value.none, Value.none, (Value.int (373 : Int) 0), (Value.int (66 : Int) 0), (Value.str (Str.ofString "/claim/cut.py") 374)])) (List.toArray []))
noncomputable def o197 : Params → Obj := fun P => (PySem.Obj.mk (Value.type "frame") Option.none Data.plain (List.toArray [(Option.some (Value.ref 150)), (Option.some (Value.ref 3)), (Option.some (Value.ref 147)), Option.none, (Option.some (Value.str (Str.ofString "moduleyard.cpu") 366)), Option.none, (Option.some (Value.ref 0))]))
noncomputable def o198 : Params → Obj := fun P => (PySem.Obj.mk (Value.type "tuple") Option.none (Data.seq (List.toArray []) 0) (List.toArray []))
noncomputable def o199 : Params → Obj := fun P => (PySem.Obj.mk Value.none Option.none (Data.fields (List.toArray [])) (List.toArray []))
noncomputable def o200 : Params → Obj := fun P => (PySem.Obj.mk (Value.type "tuple") Option.none (Data.seq (List.toArray [(Value.str (Str.ofString "self") 383), (Value.str (Str.ofString "memory") 384)]) 0) (List.toArray []))
noncomputable def o201 : Params → Obj := fun P => (PySem.Obj.mk (Value.type "tuple") Option.none (Data.seq (List.toArray []) 0) (List.toArray []))
noncomputable def o202 : Params → Obj := fnAt (st2 11 0) "Cpu.__init__" Value.none Option.none (List.toArray []) 0 [] Value.none Value.none Value.none Value.none Option.none Value.none Value.none 0 rfl
noncomputable def o203 : Params → Obj := fun P => (PySem.Obj.mk (Value.type "code") Option.none (Data.fields (List.toArray [(Value.str (Str.ofString "__init__") 380), (Value.str (Str.ofString "Cpu.__init__") 381), (Value.str (Str.ofString "/claim/cut.py") 382), (Value.int (68 : Int) 0), (Value.int (2 : Int) 0), (Value.int (0 : Int) 0), (Value.int (0 : Int) 0), (Value.int (3 : Int) 0), (Value.ref 152), (Value.bool Bool.true), (Value.int (181 : Int) 0), (Value.ref 153), Value.none, (Value.ref 154), (Value.ref 155), (Value.ref 156), (Value.int (385 : Int) 0), (Value.int (68 : Int) 0), (Value.str (Str.ofString "/claim/cut.py") 386)])) (List.toArray []))
noncomputable def o204 : Params → Obj := fnAt (st2 11 0) "Cpu.__init__" (Value.type "function") Option.none (List.toArray []) 3 [] Value.none Value.none Value.none (Value.str (Str.ofString "moduleyard.cpu") 366) Option.none (Value.ref 157) Value.none 0 rfl
noncomputable def o205 : Params → Obj := fun P => (PySem.Obj.mk (Value.type "tuple") Option.none (Data.seq (List.toArray []) 0) (List.toArray []))
noncomputable def o206 : Params → Obj := fun P => (PySem.Obj.mk Value.none Option.none (Data.fields (List.toArray [])) (List.toArray []))
noncomputable def o207 : Params → Obj := fun P => (PySem.Obj.mk (Value.type "tuple") Option.none (Data.seq (List.toArray [(Value.str (Str.ofString "self") 391)]) 0) (List.toArray []))
noncomputable def o208 : Params → Obj := fun P => (PySem.Obj.mk (Value.type "tuple") Option.none (Data.seq (List.toArray []) 0) (List.toArray []))
noncomputable def o209 : Params → Obj := fnAt (st2 11 1) "Cpu.step" Value.none Option.none (List.toArray []) 0 [] Value.none Value.none Value.none Value.none Option.none Value.none Value.none 0 rfl
noncomputable def o210 : Params → Obj := fun P => (PySem.Obj.mk (Value.type "code") Option.none (Data.fields (List.toArray [(Value.str (Str.ofString "step") 388), (Value.str (Str.ofString "Cpu.step") 389), (Value.str (Str.ofString "/claim/cut.py") 390), (Value.int (79 : Int) 0), (Value.int (1 : Int) 0), (Value.int (0 : Int) 0), (Value.int (0 : Int) 0), (Value.int (3 : Int) 0), (Value.ref 159), (Value.bool Bool.true), (Value.int (181 : Int) 0), (Value.ref 160), Value.none, (Value.ref 161), (Value.ref 162), (Value.ref 163), (Value.int (392 : Int) 0), (Value.int (79 : Int) 0), (Value.str (Str.ofString "/claim/cut.py") 393)])) (List.toArray []))
noncomputable def o211 : Params → Obj := fnAt (st2 11 1) "Cpu.step" (Value.type "function") Option.none (List.toArray []) 3 [] Value.none Value.none Value.none (Value.str (Str.ofString "moduleyard.cpu") 366) Option.none (Value.ref 164) Value.none 0 rfl
noncomputable def o212 : Params → Obj := fun P => (PySem.Obj.mk (Value.type "tuple") Option.none (Data.seq (List.toArray []) 0) (List.toArray []))
noncomputable def o213 : Params → Obj := fun P => (PySem.Obj.mk Value.none Option.none (Data.fields (List.toArray [])) (List.toArray []))
noncomputable def o214 : Params → Obj := fun P => (PySem.Obj.mk (Value.type "tuple") Option.none (Data.seq (List.toArray [(Value.str (Str.ofString "self") 398), (Value.str (Str.ofString "name") 399), (Value.str (Str.ofString "register") 400), (Value.str (Str.ofString "address") 401)]) 0) (List.toArray []))
noncomputable def o215 : Params → Obj := fun P => (PySem.Obj.mk (Value.type "tuple") Option.none (Data.seq (List.toArray []) 0) (List.toArray []))
noncomputable def o216 : Params → Obj := fnAt (st2 11 2) "Cpu.transfer" Value.none Option.none (List.toArray []) 0 [] Value.none Value.none Value.none Value.none Option.none Value.none Value.none 0 rfl
noncomputable def o217 : Params → Obj := fun P => (PySem.Obj.mk (Value.type "code") Option.none (Data.fields (List.toArray [(Value.str (Str.ofString "transfer") 395), (Value.str (Str.ofString "Cpu.transfer") 396), (Value.str (Str.ofString "/claim/cut.py") 397), (Value.int (82 : Int) 0), (Value.int (4 : Int) 0), (Value.int (0 : Int) 0), (Value.int (0 : Int) 0), (Value.int (3 : Int) 0), (Value.ref 166), (Value.bool Bool.true), (Value.int (181 : Int) 0), (Value.ref 167), Value.none, (Value.ref 168), (Value.ref 169), (Value.ref 170), (Value.int (402 : Int) 0), (Value.int (82 : Int) 0), (Value.str (Str.ofString "/claim/cut.py") 403)])) (List.toArray []))
noncomputable def o218 : Params → Obj := fnAt (st2 11 2) "Cpu.transfer" (Value.type "function") Option.none (List.toArray []) 3 [] Value.none Value.none Value.none (Value.str (Str.ofString "moduleyard.cpu") 366) Option.none (Value.ref 171) Value.none 0 rfl
noncomputable def o219 : Params → Obj := fun P => (PySem.Obj.mk (Value.type "tuple") Option.none (Data.seq (List.toArray []) 0) (List.toArray []))
noncomputable def o220 : Params → Obj := fun P => (PySem.Obj.mk Value.none Option.none (Data.fields (List.toArray [])) (List.toArray []))
noncomputable def o221 : Params → Obj := fun P => (PySem.Obj.mk (Value.type "tuple") Option.none (Data.seq (List.toArray [(Value.str (Str.ofString "self") 408)]) 0) (List.toArray []))
noncomputable def o222 : Params → Obj := fun P => (PySem.Obj.mk (Value.type "tuple") Option.none (Data.seq (List.toArray []) 0) (List.toArray []))
noncomputable def o223 : Params → Obj := fnAt (st2 11 3) "Cpu.flags" Value.none Option.none (List.toArray []) 0 [] Value.none Value.none Value.none Value.none Option.none Value.none Value.none 0 rfl
noncomputable def o224 : Params → Obj := fun P => (PySem.Obj.mk (Value.type "code") Option.none (Data.fields (List.toArray [(Value.str (Str.ofString "flags") 405), (Value.str (Str.ofString "Cpu.flags") 406), (Value.str (Str.ofString "/claim/cut.py") 407), (Value.int (85 : Int) 0), (Value.int (1 : Int) 0), (Value.int (0 : Int) 0), (Value.int (0 : Int) 0), (Value.int (3 : Int) 0), (Value.ref 173), (Value.bool Bool.true), (Value.int (181 : Int) 0), (Value.ref 174), Value.none, (Value.ref 175), (Value.ref 176), (Value.ref 177), (Value.int (409 : Int) 0), (Value.int (85 : Int) 0), (Value.str (Str.ofString "/claim/cut.py") 410)])) (List.toArray []))
noncomputable def o225 : Params → Obj := fnAt (st2 11 3) "Cpu.flags" (Value.type "function") Option.none (List.toArray []) 3 [] Value.none Value.none Value.none (Value.str (Str.ofString "moduleyard.cpu") 366) Option.none (Value.ref 178) Value.none 0 rfl
noncomputable def o226 : Params → Obj := fun P => (PySem.Obj.mk (Value.type "tuple") Option.none (Data.seq (List.toArray []) 0) (List.toArray []))
noncomputable def o227 : Params → Obj := fun P => (PySem.Obj.mk Value.none Option.none (Data.fields (List.toArray [])) (List.toArray []))
noncomputable def o228 : Params → Obj := fun P => (PySem.Obj.mk (Value.type "tuple") Option.none (Data.seq (List.toArray [(Value.str (Str.ofString "self") 415), (Value.str (Str.ofString "name") 416), (Value.str (Str.ofString "row") 417)]) 0) (List.toArray []))
noncomputable def o229 : Params → Obj := fun P => (PySem.Obj.mk (Value.type "tuple") Option.none (Data.seq (List.toArray []) 0) (List.toArray []))
noncomputable def o230 : Params → Obj := fnAt (st2 11 4) "Cpu.branch" Value.none Option.none (List.toArray []) 0 [] Value.none Value.none Value.none Value.none Option.none Value.none Value.none 0 rfl
noncomputable def o231 : Params → Obj := fun P => (PySem.Obj.mk (Value.type "code") Option.none (Data.fields (List.toArray [(Value.str (Str.ofString "branch") 412), (Value.str (Str.ofString "Cpu.branch") 413), (Value.str (Str.ofString "/claim/cut.py") 414), (Value.int (88 : Int) 0), (Value.int (3 : Int) 0), (Value.int (0 : Int) 0), (Value.int (0 : Int) 0), (Value.int (3 : Int) 0), (Value.ref 180), (Value.bool Bool.true), (Value.int (181 : Int) 0), (Value.ref 181), Value.none, (Value.ref 182), (Value.ref 183), (Value.ref 184), (Value.int (418 : Int) 0), (Value.int (88 : Int) 0), (Value.str (Str.ofString "/claim/cut.py") 419)])) (List.toArray []))
noncomputable def o232 : Params → Obj := fnAt (st2 11 4) "Cpu.branch" (Value.type "function") Option.none (List.toArray []) 3 [] Value.none Value.none Value.none (Value.str (Str.ofString "moduleyard.cpu") 366) Option.none (Value.ref 185) Value.none 0 rfl
noncomputable def o233 : Params → Obj := fun P => (PySem.Obj.mk (Value.type "tuple") Option.none (Data.seq (List.toArray []) 0) (List.toArray []))
noncomputable def o234 : Params → Obj := fun P => (PySem.Obj.mk Value.none Option.none (Data.fields (List.toArray [])) (List.toArray []))
noncomputable def o235 : Params → Obj := fun P => (PySem.Obj.mk (Value.type "tuple") Option.none (Data.seq (List.toArray [(Value.str (Str.ofString "self") 424), (Value.str (Str.ofString "register") 425), (Value.str (Str.ofString "result") 426)]) 0) (List.toArray []))
noncomputable def o236 : Params → Obj := fun P => (PySem.Obj.mk (Value.type "tuple") Option.none (Data.seq (List.toArray []) 0) (List.toArray []))
noncomputable def o237 : Params → Obj := fnAt (st2 11 5) "Cpu.set_result" Value.none Option.none (List.toArray []) 0 [] Value.none Value.none Value.none Value.none Option.none Value.none Value.none 0 rfl
noncomputable def o238 : Params → Obj := fun P => (PySem.Obj.mk (Value.type "code") Option.none (Data.fields (List.toArray [(Value.str (Str.ofString "set_result") 421), (Value.str (Str.ofString "Cpu.set_result") 422), (Value.str (Str.ofString "/claim/cut.py") 423), (Value.int (91 : Int) 0), (Value.int (3 : Int) 0), (Value.int (0 : Int) 0), (Value.int (0 : Int) 0), (Value.int (3 : Int) 0), (Value.ref 187), (Value.bool Bool.true), (Value.int (181 : Int) 0), (Value.ref 188), Value.none, (Value.ref 189), (Value.ref 190), (Value.ref 191), (Value.int (427 : Int) 0), (Value.int (91 : Int) 0), (Value.str (Str.ofString "/claim/cut.py") 428)])) (List.toArray []))
noncomputable def o239 : Params → Obj := fnAt (st2 11 5) "Cpu.set_result" (Value.type "function") Option.none (List.toArray []) 3 [] Value.none Value.none Value.none (Value.str (Str.ofString "moduleyard.cpu") 366) Option.none (Value.ref 192) Value.none 0 rfl
noncomputable def o240 : Params → Obj := fun P => (PySem.Obj.mk (Value.type "tuple") Option.none (Data.seq (List.toArray []) 0) (List.toArray []))
noncomputable def o241 : Params → Obj := fun P => (PySem.Obj.mk Value.none Option.none (Data.fields (List.toArray [])) (List.toArray []))
noncomputable def o242 : Params → Obj := fun P => (PySem.Obj.mk (Value.type "tuple") Option.none (Data.seq (List.toArray [(Value.str (Str.ofString "self") 433), (Value.str (Str.ofString "name") 434), (Value.str (Str.ofString "row") 435)]) 0) (List.toArray []))
noncomputable def o243 : Params → Obj := fun P => (PySem.Obj.mk (Value.type "tuple") Option.none (Data.seq (List.toArray []) 0) (List.toArray []))
noncomputable def o244 : Params → Obj := fnAt (st2 11 6) "Cpu.calculate" Value.none Option.none (List.toArray []) 0 [] Value.none Value.none Value.none Value.none Option.none Value.none Value.none 0 rfl
noncomputable def o245 : Params → Obj := fun P => (PySem.Obj.mk (Value.type "code") Option.none (Data.fields (List.toArray [(Value.str (Str.ofString "calculate") 430), (Value.str (Str.ofString "Cpu.calculate") 431), (Value.str (Str.ofString "/claim/cut.py") 432), (Value.int (94 : Int) 0), (Value.int (3 : Int) 0), (Value.int (0 : Int) 0), (Value.int (0 : Int) 0), (Value.int (3 : Int) 0), (Value.ref 194), (Value.bool Bool.true), (Value.int (181 : Int) 0), (Value.ref 195), Value.none, (Value.ref 196), (Value.ref 197), (Value.ref 198), (Value.int (436 : Int) 0), (Value.int (94 : Int) 0), (Value.str (Str.ofString "/claim/cut.py") 437)])) (List.toArray []))
noncomputable def o246 : Params → Obj := fnAt (st2 11 6) "Cpu.calculate" (Value.type "function") Option.none (List.toArray []) 3 [] Value.none Value.none Value.none (Value.str (Str.ofString "moduleyard.cpu") 366) Option.none (Value.ref 199) Value.none 0 rfl
noncomputable def o247 : Params → Obj := fun P => (PySem.Obj.mk (Value.type "tuple") Option.none (Data.seq (List.toArray []) 0) (List.toArray []))
noncomputable def o248 : Params → Obj := fun P => (PySem.Obj.mk Value.none Option.none (Data.fields (List.toArray [])) (List.toArray []))
noncomputable def o249 : Params → Obj := fun P => (PySem.Obj.mk (Value.type "tuple") Option.none (Data.seq (List.toArray [(Value.str (Str.ofString "self") 442), (Value.str (Str.ofString "limit") 443)]) 0) (List.toArray []))
noncomputable def o250 : Params → Obj := fun P => (PySem.Obj.mk (Value.type "tuple") Option.none (Data.seq (List.toArray []) 0) (List.toArray []))
noncomputable def o251 : Params → Obj := fnAt (st2 11 7) "Cpu.run" Value.none Option.none (List.toArray []) 0 [] Value.none Value.none Value.none Value.none Option.none Value.none Value.none 0 rfl
noncomputable def o252 : Params → Obj := fun P => (PySem.Obj.mk (Value.type "code") Option.none (Data.fields (List.toArray [(Value.str (Str.ofString "run") 439), (Value.str (Str.ofString "Cpu.run") 440), (Value.str (Str.ofString "/claim/cut.py") 441), (Value.int (97 : Int) 0), (Value.int (2 : Int) 0), (Value.int (0 : Int) 0), (Value.int (0 : Int) 0), (Value.int (3 : Int) 0), (Value.ref 201), (Value.bool Bool.true), (Value.int (181 : Int) 0), (Value.ref 202), Value.none, (Value.ref 203), (Value.ref 204), (Value.ref 205), (Value.int (444 : Int) 0), (Value.int (97 : Int) 0), (Value.str (Str.ofString "/claim/cut.py") 445)])) (List.toArray []))
noncomputable def o253 : Params → Obj := fnAt (st2 11 7) "Cpu.run" (Value.type "function") Option.none (List.toArray []) 3 [] Value.none Value.none Value.none (Value.str (Str.ofString "moduleyard.cpu") 366) Option.none (Value.ref 206) Value.none 0 rfl
noncomputable def o254 : Params → Obj := fun P => (PySem.Obj.mk (Value.type "tuple") Option.none (Data.seq (List.toArray [(Value.str (Str.ofString "c") 447), (Value.str (Str.ofString "h") 448), (Value.str (Str.ofString "memory") 449), (Value.str (Str.ofString "n") 450), (Value.str (Str.ofString "pc") 451), (Value.str (Str.ofString "regs") 452), (Value.str (Str.ofString "rows") 453), (Value.str (Str.ofString "v") 454), (Value.str (Str.ofString "z") 455)]) 0) (List.toArray []))
noncomputable def o255 : Params → Obj := fun P => (PySem.Obj.mk (Value.type "dict") Option.none (Data.dict (List.toArray [(PySem.DictEntry.mk (PySem.PyData.keyHash P (Str.ofString "__module__")) (Value.str (Str.ofString "__module__") 375) (Value.str (Str.ofString "moduleyard.cpu") 366)), (PySem.DictEntry.mk (PySem.PyData.keyHash P (Str.ofString "__firstlineno__")) (Value.str (Str.ofString "__firstlineno__") 379) (Value.int (66 : Int) 378)), (PySem.DictEntry.mk (PySem.PyData.keyHash P (Str.ofString "__init__")) (Value.str (Str.ofString "__init__") 387) (Value.ref 158)), (PySem.DictEntry.mk (PySem.PyData.keyHash P (Str.ofString "step")) (Value.str (Str.ofString "step") 394) (Value.ref 165)), (PySem.DictEntry.mk (PySem.PyData.keyHash P (Str.ofString "transfer")) (Value.str (Str.ofString "transfer") 404) (Value.ref 172)), (PySem.DictEntry.mk (PySem.PyData.keyHash P (Str.ofString "flags")) (Value.str (Str.ofString "flags") 411) (Value.ref 179)), (PySem.DictEntry.mk (PySem.PyData.keyHash P (Str.ofString "branch")) (Value.str (Str.ofString "branch") 420) (Value.ref 186)), (PySem.DictEntry.mk (PySem.PyData.keyHash P (Str.ofString "set_result")) (Value.str (Str.ofString "set_result") 429) (Value.ref 193)), (PySem.DictEntry.mk (PySem.PyData.keyHash P (Str.ofString "calculate")) (Value.str (Str.ofString "calculate") 438) (Value.ref 200)), (PySem.DictEntry.mk (PySem.PyData.keyHash P (Str.ofString "run")) (Value.str (Str.ofString "run") 446) (Value.ref 207)), (PySem.DictEntry.mk (PySem.PyData.keyHash P (Str.ofString "__static_attributes__")) (Value.str (Str.ofString "__static_attributes__") 456) (Value.ref 208)), (PySem.DictEntry.mk (PySem.PyData.keyHash P (Str.ofString "__dict__")) (Value.str (Str.ofString "__dict__") 458) (Value.ref 211)), (PySem.DictEntry.mk (PySem.PyData.keyHash P (Str.ofString "__weakref__")) (Value.str (Str.ofString "__weakref__") 460) (Value.ref 212)), (PySem.DictEntry.mk (PySem.PyData.keyHash P (Str.ofString "__doc__")) (Value.str (Str.ofString "__doc__") 461) Value.none)]) 4) (List.toArray []))
noncomputable def o256 : Params → Obj := fun P => (PySem.Obj.mk (Value.type "type") Option.none (Data.cls (PySem.ClassData.mk (Str.ofString "Cpu") [(Value.type "object")] [(Value.ref 210), (Value.type "object")] 209 (Str.ofString "Cpu") Bool.true [] [] Bool.false Option.none Bool.false)) (List.toArray [Option.none, Option.none, (Option.some (Value.str (Str.ofString "Cpu") 368)), (Option.some (Value.str (Str.ofString "Cpu") 376)), (Option.some (Value.builtin "object.__new__")), (Option.some (Value.bool Bool.true))]))
noncomputable def o257 : Params → Obj := fun P => (PySem.Obj.mk (Value.type "getset_descriptor") Option.none (Data.fields (List.toArray [(Value.str (Str.ofString "__dict__") 457), (Value.ref 210), (Value.builtin "function.__dict__"), (Value.builtin "function.__dict__#set")])) (List.toArray []))
noncomputable def o258 : Params → Obj := fun P => (PySem.Obj.mk (Value.type "getset_descriptor") Option.none (Data.fields (List.toArray [(Value.str (Str.ofString "__weakref__") 459), (Value.ref 210), (Value.builtin "ExceptionGroup.__weakref__"), Value.none])) (List.toArray []))
noncomputable def o259 : Params → Obj := fun P => (PySem.Obj.mk (Value.type "super") Option.none (Data.fields (List.toArray [(Value.ref 210), (Value.ref 210), (Value.ref 210)])) (List.toArray []))
noncomputable def o260 : Params → Obj := fun P => (PySem.Obj.mk (Value.type "builtin_function_or_method") Option.none (Data.fields (List.toArray [(Value.builtin "object.__init_subclass__"), (Value.ref 210)])) (List.toArray []))
noncomputable def o261 : Params → Obj := fun P => (PySem.Obj.mk (Value.type "dict") Option.none (Data.dict (List.toArray [(PySem.DictEntry.mk (PySem.PyData.keyHash P (Str.ofString "__name__")) (Value.str (Str.ofString "__name__") 165) (Value.str (Str.ofString "moduleyard.memory") 464)), (PySem.DictEntry.mk (PySem.PyData.keyHash P (Str.ofString "__doc__")) (Value.str (Str.ofString "__doc__") 166) Value.none), (PySem.DictEntry.mk (PySem.PyData.keyHash P (Str.ofString "__package__")) (Value.str (Str.ofString "__package__") 167) Value.none), (PySem.DictEntry.mk (PySem.PyData.keyHash P (Str.ofString "__loader__")) (Value.str (Str.ofString "__loader__") 168) (Value.builtin "__main__.__loader__#opaque")), (PySem.DictEntry.mk (PySem.PyData.keyHash P (Str.ofString "__spec__")) (Value.str (Str.ofString "__spec__") 169) Value.none), (PySem.DictEntry.mk (PySem.PyData.keyHash P (Str.ofString "__annotations__")) (Value.str (Str.ofString "__annotations__") 170) (Value.ref 6)), (PySem.DictEntry.mk (PySem.PyData.keyHash P (Str.ofString "__builtins__")) (Value.str (Str.ofString "__builtins__") 171) (Value.ref 4)), (PySem.DictEntry.mk (PySem.PyData.keyHash P (Str.ofString "__file__")) (Value.str (Str.ofString "__file__") 173) (Value.str (Str.ofString "/claim/cut.py") 172)), (PySem.DictEntry.mk (PySem.PyData.keyHash P (Str.ofString "__cached__")) (Value.str (Str.ofString "__cached__") 174) Value.none), (PySem.DictEntry.mk (PySem.PyData.keyHash P (Str.ofString "_wall")) (Value.str (Str.ofString "_wall") 193) (Value.ref 21)), (PySem.DictEntry.mk (PySem.PyData.keyHash P (Str.ofString "data_room")) (Value.str (Str.ofString "data_room") 204) (Value.ref 28)), (PySem.DictEntry.mk (PySem.PyData.keyHash P (Str.ofString "YardError")) (Value.str (Str.ofString "YardError") 226) (Value.ref 38)), (PySem.DictEntry.mk (PySem.PyData.keyHash P (Str.ofString "TrapError")) (Value.str (Str.ofString "TrapError") 255) (Value.ref 58)), (PySem.DictEntry.mk (PySem.PyData.keyHash P (Str.ofString "LISTS")) (Value.str (Str.ofString "LISTS") 259) (Value.int (4 : Int) 258)), (PySem.DictEntry.mk (PySem.PyData.keyHash P (Str.ofString "list_number")) (Value.str (Str.ofString "list_number") 266) (Value.ref 67)), (PySem.DictEntry.mk (PySem.PyData.keyHash P (Str.ofString "Heap")) (Value.str (Str.ofString "Heap") 365) (Value.ref 140)), (PySem.DictEntry.mk (PySem.PyData.keyHash P (Str.ofString "Cpu")) (Value.str (Str.ofString "Cpu") 463) (Value.ref 210)), (PySem.DictEntry.mk (PySem.PyData.keyHash P (Str.ofString "WORD")) (Value.str (Str.ofString "WORD") 467) (Value.int (4294967296 : Int) 466))]) 18) (List.toArray []))
noncomputable def o265 : Params → Obj := fun P => (PySem.Obj.mk (Value.type "tuple") Option.none (Data.seq (List.toArray []) 0) (List.toArray []))
noncomputable def o266 : Params → Obj := fun P => (PySem.Obj.mk (Value.type "builtin_function_or_method") Option.none (Data.fields (List.toArray [(Value.builtin "type.__prepare__"), (Value.type "type")])) (List.toArray []))
noncomputable def o267 : Params → Obj := fun P => (PySem.Obj.mk (Value.type "dict") Option.none (Data.dict (List.toArray [(PySem.DictEntry.mk (PySem.PyData.keyHash P (Str.ofString "__module__")) (Value.str (Str.ofString "__module__") 475) (Value.str (Str.ofString "moduleyard.memory") 464)), (PySem.DictEntry.mk (PySem.PyData.keyHash P (Str.ofString "__qualname__")) (Value.str (Str.ofString "__qualname__") 477) (Value.str (Str.ofString "Memory") 476)), (PySem.DictEntry.mk (PySem.PyData.keyHash P (Str.ofString "__firstlineno__")) (Value.str (Str.ofString "__firstlineno__") 479) (Value.int (101 : Int) 478)), (PySem.DictEntry.mk (PySem.PyData.keyHash P (Str.ofString "__init__")) (Value.str (Str.ofString "__init__") 487) (Value.ref 228)), (PySem.DictEntry.mk (PySem.PyData.keyHash P (Str.ofString "place")) (Value.str (Str.ofString "place") 495) (Value.ref 235)), (PySem.DictEntry.mk (PySem.PyData.keyHash P (Str.ofString "word")) (Value.str (Str.ofString "word") 503) (Value.ref 242)), (PySem.DictEntry.mk (PySem.PyData.keyHash P (Str.ofString "put_word")) (Value.str (Str.ofString "put_word") 512) (Value.ref 249)), (PySem.DictEntry.mk (PySem.PyData.keyHash P (Str.ofString "byte")) (Value.str (Str.ofString "byte") 520) (Value.ref 256)), (PySem.DictEntry.mk (PySem.PyData.keyHash P (Str.ofString "put_byte")) (Value.str (Str.ofString "put_byte") 529) (Value.ref 263)), (PySem.DictEntry.mk (PySem.PyData.keyHash P (Str.ofString "__static_attributes__")) (Value.str (Str.ofString "__static_attributes__") 532) (Value.ref 264))]) 10) (List.toArray []))
noncomputable def o268 : Params → Obj := fun P => (PySem.Obj.mk (Value.type "tuple") Option.none (Data.seq (List.toArray []) 0) (List.toArray []))
noncomputable def o269 : Params → Obj := fun P => (PySem.Obj.mk Value.none Option.none (Data.fields (List.toArray [(Value.int (103 : Int) 0), (Value.int (4 : Int) 0), (Value.ref 227), (Value.int (107 : Int) 0), (Value.int (4 : Int) 0), (Value.ref 234), (Value.int (112 : Int) 0), (Value.int (4 : Int) 0), (Value.ref 241), (Value.int (115 : Int) 0), (Value.int (4 : Int) 0), (Value.ref 248), (Value.int (118 : Int) 0), (Value.int (4 : Int) 0), (Value.ref 255), (Value.int (121 : Int) 0), (Value.int (4 : Int) 0), (Value.ref 262)])) (List.toArray []))
noncomputable def o270 : Params → Obj := fun P => (PySem.Obj.mk (Value.type "code") Option.none (Data.fields (List.toArray [(Value.str (Str.ofString "Memory") 470), (Value.str (Str.ofString "Memory") 471), (Value.str (Str.ofString "/claim/cut.py") 472), (Value.int (101 : Int) 0), (Value.int (0 : Int) 0), (Value.int (0 : Int) 0), (Value.int (0 : Int) 0), (Value.int (0 : Int) 0), (Value.ref 218), (Value.bool Bool.false), (Value.int (181 : Int) 0), (Value.ref 219), Value.none, Value.none, Value.none, Value.none, (Value.int (473 : Int) 0), (Value.int (101 : Int) 0), (Value.str (Str.ofString "/claim/cut.py") 474)])) (List.toArray []))
noncomputable def o271 : Params → Obj := fun P => (PySem.Obj.mk (Value.type "frame") Option.none Data.plain (List.toArray [(Option.some (Value.ref 220)), (Option.some (Value.ref 3)), (Option.some (Value.ref 217)), Option.none, (Option.some (Value.str (Str.ofString "moduleyard.memory") 464)), Option.none, (Option.some (Value.ref 0))]))
noncomputable def o272 : Params → Obj := fun P => (PySem.Obj.mk (Value.type "tuple") Option.none (Data.seq (List.toArray []) 0) (List.toArray []))
noncomputable def o273 : Params → Obj := fun P => (PySem.Obj.mk Value.none Option.none (Data.fields (List.toArray [])) (List.toArray []))
noncomputable def o274 : Params → Obj := fun P => (PySem.Obj.mk (Value.type "tuple") Option.none (Data.seq (List.toArray [(Value.str (Str.ofString "self") 483), (Value.str (Str.ofString "size") 484)]) 0) (List.toArray []))
noncomputable def o275 : Params → Obj := fun P => (PySem.Obj.mk (Value.type "tuple") Option.none (Data.seq (List.toArray []) 0) (List.toArray []))
noncomputable def o276 : Params → Obj := fnAt (st2 14 0) "Memory.__init__" Value.none Option.none (List.toArray []) 0 [] Value.none Value.none Value.none Value.none Option.none Value.none Value.none 0 rfl
noncomputable def o277 : Params → Obj := fun P => (PySem.Obj.mk (Value.type "code") Option.none (Data.fields (List.toArray [(Value.str (Str.ofString "__init__") 480), (Value.str (Str.ofString "Memory.__init__") 481), (Value.str (Str.ofString "/claim/cut.py") 482), (Value.int (103 : Int) 0), (Value.int (2 : Int) 0), (Value.int (0 : Int) 0), (Value.int (0 : Int) 0), (Value.int (3 : Int) 0), (Value.ref 222), (Value.bool Bool.true), (Value.int (181 : Int) 0), (Value.ref 223), Value.none, (Value.ref 224), (Value.ref 225), (Value.ref 226), (Value.int (485 : Int) 0), (Value.int (103 : Int) 0), (Value.str (Str.ofString "/claim/cut.py") 486)])) (List.toArray []))
noncomputable def o278 : Params → Obj := fnAt (st2 14 0) "Memory.__init__" (Value.type "function") Option.none (List.toArray []) 3 [] Value.none Value.none Value.none (Value.str (Str.ofString "moduleyard.memory") 464) Option.none (Value.ref 227) Value.none 0 rfl
noncomputable def o279 : Params → Obj := fun P => (PySem.Obj.mk (Value.type "tuple") Option.none (Data.seq (List.toArray []) 0) (List.toArray []))
noncomputable def o280 : Params → Obj := fun P => (PySem.Obj.mk Value.none Option.none (Data.fields (List.toArray [])) (List.toArray []))
noncomputable def o281 : Params → Obj := fun P => (PySem.Obj.mk (Value.type "tuple") Option.none (Data.seq (List.toArray [(Value.str (Str.ofString "self") 491), (Value.str (Str.ofString "address") 492)]) 0) (List.toArray []))
noncomputable def o282 : Params → Obj := fun P => (PySem.Obj.mk (Value.type "tuple") Option.none (Data.seq (List.toArray []) 0) (List.toArray []))
noncomputable def o283 : Params → Obj := fnAt (st2 14 1) "Memory.place" Value.none Option.none (List.toArray []) 0 [] Value.none Value.none Value.none Value.none Option.none Value.none Value.none 0 rfl
noncomputable def o284 : Params → Obj := fun P => (PySem.Obj.mk (Value.type "code") Option.none (Data.fields (List.toArray [(Value.str (Str.ofString "place") 488), (Value.str (Str.ofString "Memory.place") 489), (Value.str (Str.ofString "/claim/cut.py") 490), (Value.int (107 : Int) 0), (Value.int (2 : Int) 0), (Value.int (0 : Int) 0), (Value.int (0 : Int) 0), (Value.int (3 : Int) 0), (Value.ref 229), (Value.bool Bool.true), (Value.int (181 : Int) 0), (Value.ref 230), Value.none, (Value.ref 231), (Value.ref 232), (Value.ref 233), (Value.int (493 : Int) 0), (Value.int (107 : Int) 0), (Value.str (Str.ofString "/claim/cut.py") 494)])) (List.toArray []))
noncomputable def o285 : Params → Obj := fnAt (st2 14 1) "Memory.place" (Value.type "function") Option.none (List.toArray []) 3 [] Value.none Value.none Value.none (Value.str (Str.ofString "moduleyard.memory") 464) Option.none (Value.ref 234) Value.none 0 rfl
noncomputable def o286 : Params → Obj := fun P => (PySem.Obj.mk (Value.type "tuple") Option.none (Data.seq (List.toArray []) 0) (List.toArray []))
noncomputable def o287 : Params → Obj := fun P => (PySem.Obj.mk Value.none Option.none (Data.fields (List.toArray [])) (List.toArray []))
noncomputable def o288 : Params → Obj := fun P => (PySem.Obj.mk (Value.type "tuple") Option.none (Data.seq (List.toArray [(Value.str (Str.ofString "self") 499), (Value.str (Str.ofString "address") 500)]) 0) (List.toArray []))
noncomputable def o289 : Params → Obj := fun P => (PySem.Obj.mk (Value.type "tuple") Option.none (Data.seq (List.toArray []) 0) (List.toArray []))
noncomputable def o290 : Params → Obj := fnAt (st2 14 2) "Memory.word" Value.none Option.none (List.toArray []) 0 [] Value.none Value.none Value.none Value.none Option.none Value.none Value.none 0 rfl
noncomputable def o291 : Params → Obj := fun P => (PySem.Obj.mk (Value.type "code") Option.none (Data.fields (List.toArray [(Value.str (Str.ofString "word") 496), (Value.str (Str.ofString "Memory.word") 497), (Value.str (Str.ofString "/claim/cut.py") 498), (Value.int (112 : Int) 0), (Value.int (2 : Int) 0), (Value.int (0 : Int) 0), (Value.int (0 : Int) 0), (Value.int (3 : Int) 0), (Value.ref 236), (Value.bool Bool.true), (Value.int (181 : Int) 0), (Value.ref 237), Value.none, (Value.ref 238), (Value.ref 239), (Value.ref 240), (Value.int (501 : Int) 0), (Value.int (112 : Int) 0), (Value.str (Str.ofString "/claim/cut.py") 502)])) (List.toArray []))
noncomputable def o292 : Params → Obj := fnAt (st2 14 2) "Memory.word" (Value.type "function") Option.none (List.toArray []) 3 [] Value.none Value.none Value.none (Value.str (Str.ofString "moduleyard.memory") 464) Option.none (Value.ref 241) Value.none 0 rfl
noncomputable def o293 : Params → Obj := fun P => (PySem.Obj.mk (Value.type "tuple") Option.none (Data.seq (List.toArray []) 0) (List.toArray []))
noncomputable def o294 : Params → Obj := fun P => (PySem.Obj.mk Value.none Option.none (Data.fields (List.toArray [])) (List.toArray []))
noncomputable def o295 : Params → Obj := fun P => (PySem.Obj.mk (Value.type "tuple") Option.none (Data.seq (List.toArray [(Value.str (Str.ofString "self") 507), (Value.str (Str.ofString "address") 508), (Value.str (Str.ofString "value") 509)]) 0) (List.toArray []))
noncomputable def o296 : Params → Obj := fun P => (PySem.Obj.mk (Value.type "tuple") Option.none (Data.seq (List.toArray []) 0) (List.toArray []))
noncomputable def o297 : Params → Obj := fnAt (st2 14 3) "Memory.put_word" Value.none Option.none (List.toArray []) 0 [] Value.none Value.none Value.none Value.none Option.none Value.none Value.none 0 rfl
noncomputable def o298 : Params → Obj := fun P => (PySem.Obj.mk (Value.type "code") Option.none (Data.fields (List.toArray [(Value.str (Str.ofString "put_word") 504), (Value.str (Str.ofString "Memory.put_word") 505), (Value.str (Str.ofString "/claim/cut.py") 506), (Value.int (115 : Int) 0), (Value.int (3 : Int) 0), (Value.int (0 : Int) 0), (Value.int (0 : Int) 0), (Value.int (3 : Int) 0), (Value.ref 243), (Value.bool Bool.true), (Value.int (181 : Int) 0), (Value.ref 244), Value.none, (Value.ref 245), (Value.ref 246), (Value.ref 247), (Value.int (510 : Int) 0), (Value.int (115 : Int) 0), (Value.str (Str.ofString "/claim/cut.py") 511)])) (List.toArray []))
noncomputable def o299 : Params → Obj := fnAt (st2 14 3) "Memory.put_word" (Value.type "function") Option.none (List.toArray []) 3 [] Value.none Value.none Value.none (Value.str (Str.ofString "moduleyard.memory") 464) Option.none (Value.ref 248) Value.none 0 rfl
noncomputable def o300 : Params → Obj := fun P => (PySem.Obj.mk (Value.type "tuple") Option.none (Data.seq (List.toArray []) 0) (List.toArray []))
noncomputable def o301 : Params → Obj := fun P => (PySem.Obj.mk Value.none Option.none (Data.fields (List.toArray [])) (List.toArray []))
noncomputable def o302 : Params → Obj := fun P => (PySem.Obj.mk (Value.type "tuple") Option.none (Data.seq (List.toArray [(Value.str (Str.ofString "self") 516), (Value.str (Str.ofString "address") 517)]) 0) (List.toArray []))
noncomputable def o303 : Params → Obj := fun P => (PySem.Obj.mk (Value.type "tuple") Option.none (Data.seq (List.toArray []) 0) (List.toArray []))
noncomputable def o304 : Params → Obj := fnAt (st2 14 4) "Memory.byte" Value.none Option.none (List.toArray []) 0 [] Value.none Value.none Value.none Value.none Option.none Value.none Value.none 0 rfl
noncomputable def o305 : Params → Obj := fun P => (PySem.Obj.mk (Value.type "code") Option.none (Data.fields (List.toArray [(Value.str (Str.ofString "byte") 513), (Value.str (Str.ofString "Memory.byte") 514), (Value.str (Str.ofString "/claim/cut.py") 515), (Value.int (118 : Int) 0), (Value.int (2 : Int) 0), (Value.int (0 : Int) 0), (Value.int (0 : Int) 0), (Value.int (3 : Int) 0), (Value.ref 250), (Value.bool Bool.true), (Value.int (181 : Int) 0), (Value.ref 251), Value.none, (Value.ref 252), (Value.ref 253), (Value.ref 254), (Value.int (518 : Int) 0), (Value.int (118 : Int) 0), (Value.str (Str.ofString "/claim/cut.py") 519)])) (List.toArray []))
noncomputable def o306 : Params → Obj := fnAt (st2 14 4) "Memory.byte" (Value.type "function") Option.none (List.toArray []) 3 [] Value.none Value.none Value.none (Value.str (Str.ofString "moduleyard.memory") 464) Option.none (Value.ref 255) Value.none 0 rfl
noncomputable def o307 : Params → Obj := fun P => (PySem.Obj.mk (Value.type "tuple") Option.none (Data.seq (List.toArray []) 0) (List.toArray []))
noncomputable def o308 : Params → Obj := fun P => (PySem.Obj.mk Value.none Option.none (Data.fields (List.toArray [])) (List.toArray []))
noncomputable def o309 : Params → Obj := fun P => (PySem.Obj.mk (Value.type "tuple") Option.none (Data.seq (List.toArray [(Value.str (Str.ofString "self") 524), (Value.str (Str.ofString "address") 525), (Value.str (Str.ofString "value") 526)]) 0) (List.toArray []))
noncomputable def o310 : Params → Obj := fun P => (PySem.Obj.mk (Value.type "tuple") Option.none (Data.seq (List.toArray []) 0) (List.toArray []))
noncomputable def o311 : Params → Obj := fnAt (st2 14 5) "Memory.put_byte" Value.none Option.none (List.toArray []) 0 [] Value.none Value.none Value.none Value.none Option.none Value.none Value.none 0 rfl
noncomputable def o312 : Params → Obj := fun P => (PySem.Obj.mk (Value.type "code") Option.none (Data.fields (List.toArray [(Value.str (Str.ofString "put_byte") 521), (Value.str (Str.ofString "Memory.put_byte") 522), (Value.str (Str.ofString "/claim/cut.py") 523), (Value.int (121 : Int) 0), (Value.int (3 : Int) 0), (Value.int (0 : Int) 0), (Value.int (0 : Int) 0), (Value.int (3 : Int) 0), (Value.ref 257), (Value.bool Bool.true), (Value.int (181 : Int) 0), (Value.ref 258), Value.none, (Value.ref 259), (Value.ref 260), (Value.ref 261), (Value.int (527 : Int) 0), (Value.int (121 : Int) 0), (Value.str (Str.ofString "/claim/cut.py") 528)])) (List.toArray []))
noncomputable def o313 : Params → Obj := fnAt (st2 14 5) "Memory.put_byte" (Value.type "function") Option.none (List.toArray []) 3 [] Value.none Value.none Value.none (Value.str (Str.ofString "moduleyard.memory") 464) Option.none (Value.ref 262) Value.none 0 rfl
noncomputable def o314 : Params → Obj := fun P => (PySem.Obj.mk (Value.type "tuple") Option.none (Data.seq (List.toArray [(Value.str (Str.ofString "size") 530), (Value.str (Str.ofString "words") 531)]) 0) (List.toArray []))
noncomputable def o315 : Params → Obj := fun P => (PySem.Obj.mk (Value.type "dict") Option.none (Data.dict (List.toArray [(PySem.DictEntry.mk (PySem.PyData.keyHash P (Str.ofString "__module__")) (Value.str (Str.ofString "__module__") 475) (Value.str (Str.ofString "moduleyard.memory") 464)), (PySem.DictEntry.mk (PySem.PyData.keyHash P (Str.ofString "__firstlineno__")) (Value.str (Str.ofString "__firstlineno__") 479) (Value.int (101 : Int) 478)), (PySem.DictEntry.mk (PySem.PyData.keyHash P (Str.ofString "__init__")) (Value.str (Str.ofString "__init__") 487) (Value.ref 228)), (PySem.DictEntry.mk (PySem.PyData.keyHash P (Str.ofString "place")) (Value.str (Str.ofString "place") 495) (Value.ref 235)), (PySem.DictEntry.mk (PySem.PyData.keyHash P (Str.ofString "word")) (Value.str (Str.ofString "word") 503) (Value.ref 242)), (PySem.DictEntry.mk (PySem.PyData.keyHash P (Str.ofString "put_word")) (Value.str (Str.ofString "put_word") 512) (Value.ref 249)), (PySem.DictEntry.mk (PySem.PyData.keyHash P (Str.ofString "byte")) (Value.str (Str.ofString "byte") 520) (Value.ref 256)), (PySem.DictEntry.mk (PySem.PyData.keyHash P (Str.ofString "put_byte")) (Value.str (Str.ofString "put_byte") 529) (Value.ref 263)), (PySem.DictEntry.mk (PySem.PyData.keyHash P (Str.ofString "__static_attributes__")) (Value.str (Str.ofString "__static_attributes__") 532) (Value.ref 264)), (PySem.DictEntry.mk (PySem.PyData.keyHash P (Str.ofString "__dict__")) (Value.str (Str.ofString "__dict__") 534) (Value.ref 267)), (PySem.DictEntry.mk (PySem.PyData.keyHash P (Str.ofString "__weakref__")) (Value.str (Str.ofString "__weakref__") 536) (Value.ref 268)), (PySem.DictEntry.mk (PySem.PyData.keyHash P (Str.ofString "__doc__")) (Value.str (Str.ofString "__doc__") 537) Value.none)]) 4) (List.toArray []))
noncomputable def o316 : Params → Obj := fun P => (PySem.Obj.mk (Value.type "type") Option.none (Data.cls (PySem.ClassData.mk (Str.ofString "Memory") [(Value.type "object")] [(Value.ref 266), (Value.type "object")] 265 (Str.ofString "Memory") Bool.true [] [] Bool.false Option.none Bool.false)) (List.toArray [Option.none, Option.none, (Option.some (Value.str (Str.ofString "Memory") 468)), (Option.some (Value.str (Str.ofString "Memory") 476)), (Option.some (Value.builtin "object.__new__")), (Option.some (Value.bool Bool.true))]))
noncomputable def o317 : Params → Obj := fun P => (PySem.Obj.mk (Value.type "getset_descriptor") Option.none (Data.fields (List.toArray [(Value.str (Str.ofString "__dict__") 533), (Value.ref 266), (Value.builtin "function.__dict__"), (Value.builtin "function.__dict__#set")])) (List.toArray []))
noncomputable def o318 : Params → Obj := fun P => (PySem.Obj.mk (Value.type "getset_descriptor") Option.none (Data.fields (List.toArray [(Value.str (Str.ofString "__weakref__") 535), (Value.ref 266), (Value.builtin "ExceptionGroup.__weakref__"), Value.none])) (List.toArray []))
noncomputable def o319 : Params → Obj := fun P => (PySem.Obj.mk (Value.type "super") Option.none (Data.fields (List.toArray [(Value.ref 266), (Value.ref 266), (Value.ref 266)])) (List.toArray []))
noncomputable def o320 : Params → Obj := fun P => (PySem.Obj.mk (Value.type "builtin_function_or_method") Option.none (Data.fields (List.toArray [(Value.builtin "object.__init_subclass__"), (Value.ref 266)])) (List.toArray []))
noncomputable def o321 : Params → Obj := fun P => (PySem.Obj.mk (Value.type "dict") Option.none (Data.dict (List.toArray [(PySem.DictEntry.mk (PySem.PyData.keyHash P (Str.ofString "__name__")) (Value.str (Str.ofString "__name__") 165) (Value.str (Str.ofString "moduleyard.machine") 540)), (PySem.DictEntry.mk (PySem.PyData.keyHash P (Str.ofString "__doc__")) (Value.str (Str.ofString "__doc__") 166) Value.none), (PySem.DictEntry.mk (PySem.PyData.keyHash P (Str.ofString "__package__")) (Value.str (Str.ofString "__package__") 167) Value.none), (PySem.DictEntry.mk (PySem.PyData.keyHash P (Str.ofString "__loader__")) (Value.str (Str.ofString "__loader__") 168) (Value.builtin "__main__.__loader__#opaque")), (PySem.DictEntry.mk (PySem.PyData.keyHash P (Str.ofString "__spec__")) (Value.str (Str.ofString "__spec__") 169) Value.none), (PySem.DictEntry.mk (PySem.PyData.keyHash P (Str.ofString "__annotations__")) (Value.str (Str.ofString "__annotations__") 170) (Value.ref 6)), (PySem.DictEntry.mk (PySem.PyData.keyHash P (Str.ofString "__builtins__")) (Value.str (Str.ofString "__builtins__") 171) (Value.ref 4)), (PySem.DictEntry.mk (PySem.PyData.keyHash P (Str.ofString "__file__")) (Value.str (Str.ofString "__file__") 173) (Value.str (Str.ofString "/claim/cut.py") 172)), (PySem.DictEntry.mk (PySem.PyData.keyHash P (Str.ofString "__cached__")) (Value.str (Str.ofString "__cached__") 174) Value.none), (PySem.DictEntry.mk (PySem.PyData.keyHash P (Str.ofString "_wall")) (Value.str (Str.ofString "_wall") 193) (Value.ref 21)), (PySem.DictEntry.mk (PySem.PyData.keyHash P (Str.ofString "data_room")) (Value.str (Str.ofString "data_room") 204) (Value.ref 28)), (PySem.DictEntry.mk (PySem.PyData.keyHash P (Str.ofString "YardError")) (Value.str (Str.ofString "YardError") 226) (Value.ref 38)), (PySem.DictEntry.mk (PySem.PyData.keyHash P (Str.ofString "TrapError")) (Value.str (Str.ofString "TrapError") 255) (Value.ref 58)), (PySem.DictEntry.mk (PySem.PyData.keyHash P (Str.ofString "LISTS")) (Value.str (Str.ofString "LISTS") 259) (Value.int (4 : Int) 258)), (PySem.DictEntry.mk (PySem.PyData.keyHash P (Str.ofString "list_number")) (Value.str (Str.ofString "list_number") 266) (Value.ref 67)), (PySem.DictEntry.mk (PySem.PyData.keyHash P (Str.ofString "Heap")) (Value.str (Str.ofString "Heap") 365) (Value.ref 140)), (PySem.DictEntry.mk (PySem.PyData.keyHash P (Str.ofString "Cpu")) (Value.str (Str.ofString "Cpu") 463) (Value.ref 210)), (PySem.DictEntry.mk (PySem.PyData.keyHash P (Str.ofString "WORD")) (Value.str (Str.ofString "WORD") 467) (Value.int (4294967296 : Int) 466)), (PySem.DictEntry.mk (PySem.PyData.keyHash P (Str.ofString "Memory")) (Value.str (Str.ofString "Memory") 539) (Value.ref 266)), (PySem.DictEntry.mk (PySem.PyData.keyHash P (Str.ofString "DATA_START")) (Value.str (Str.ofString "DATA_START") 543) (Value.int (64 : Int) 542)), (PySem.DictEntry.mk (PySem.PyData.keyHash P (Str.ofString "GRAIN")) (Value.str (Str.ofString "GRAIN") 545) (Value.int (16 : Int) 544)), (PySem.DictEntry.mk (PySem.PyData.keyHash P (Str.ofString "COMMAND_END")) (Value.str (Str.ofString "COMMAND_END") 547) (Value.int (9 : Int) 546)), (PySem.DictEntry.mk (PySem.PyData.keyHash P (Str.ofString "rounded")) (Value.str (Str.ofString "rounded") 554) (Value.ref 277))]) 23) (List.toArray []))
noncomputable def o322 : Params → Obj := fun P => (PySem.Obj.mk Value.none Option.none (Data.fields (List.toArray [(Value.int (1 : Int) 0), (Value.int (0 : Int) 0), (Value.ref 20), (Value.int (5 : Int) 0), (Value.int (0 : Int) 0), (Value.ref 27), (Value.int (11 : Int) 0), (Value.int (0 : Int) 0), (Value.ref 34), (Value.int (13 : Int) 0), (Value.int (0 : Int) 0), (Value.ref 47), (Value.int (21 : Int) 0), (Value.int (0 : Int) 0), (Value.ref 66), (Value.int (29 : Int) 0), (Value.int (0 : Int) 0), (Value.ref 73), (Value.int (66 : Int) 0), (Value.int (0 : Int) 0), (Value.ref 150), (Value.int (101 : Int) 0), (Value.int (0 : Int) 0), (Value.ref 220), (Value.int (127 : Int) 0), (Value.int (0 : Int) 0), (Value.ref 276)])) (List.toArray []))
noncomputable def o323 : Params → Obj := fun P => (PySem.Obj.mk (Value.type "tuple") Option.none (Data.seq (List.toArray []) 0) (List.toArray []))
noncomputable def o324 : Params → Obj := fun P => (PySem.Obj.mk Value.none Option.none (Data.fields (List.toArray [])) (List.toArray []))
noncomputable def o325 : Params → Obj := fun P => (PySem.Obj.mk (Value.type "tuple") Option.none (Data.seq (List.toArray [(Value.str (Str.ofString "size") 551)]) 0) (List.toArray []))
noncomputable def o326 : Params → Obj := fun P => (PySem.Obj.mk (Value.type "tuple") Option.none (Data.seq (List.toArray []) 0) (List.toArray []))
noncomputable def o327 : Params → Obj := fnAt (st1 19) "rounded" Value.none Option.none (List.toArray []) 0 [] Value.none Value.none Value.none Value.none Option.none Value.none Value.none 0 rfl
noncomputable def o328 : Params → Obj := fun P => (PySem.Obj.mk (Value.type "code") Option.none (Data.fields (List.toArray [(Value.str (Str.ofString "rounded") 548), (Value.str (Str.ofString "rounded") 549), (Value.str (Str.ofString "/claim/cut.py") 550), (Value.int (127 : Int) 0), (Value.int (1 : Int) 0), (Value.int (0 : Int) 0), (Value.int (0 : Int) 0), (Value.int (3 : Int) 0), (Value.ref 271), (Value.bool Bool.true), (Value.int (181 : Int) 0), (Value.ref 272), Value.none, (Value.ref 273), (Value.ref 274), (Value.ref 275), (Value.int (552 : Int) 0), (Value.int (127 : Int) 0), (Value.str (Str.ofString "/claim/cut.py") 553)])) (List.toArray []))
noncomputable def o329 : Params → Obj := fnAt (st1 19) "rounded" (Value.type "function") Option.none (List.toArray []) 3 [] Value.none Value.none Value.none (Value.str (Str.ofString "moduleyard.machine") 540) Option.none (Value.ref 276) Value.none 0 rfl
noncomputable def o330 : Params → Obj := fun P => (PySem.Obj.mk (Value.type "dict") Option.none (Data.dict (List.toArray [(PySem.DictEntry.mk (PySem.PyData.keyHash P (Str.ofString "__name__")) (Value.str (Str.ofString "__name__") 165) (Value.str (Str.ofString "moduleyard.machine") 540)), (PySem.DictEntry.mk (PySem.PyData.keyHash P (Str.ofString "__doc__")) (Value.str (Str.ofString "__doc__") 166) Value.none), (PySem.DictEntry.mk (PySem.PyData.keyHash P (Str.ofString "__package__")) (Value.str (Str.ofString "__package__") 167) Value.none), (PySem.DictEntry.mk (PySem.PyData.keyHash P (Str.ofString "__loader__")) (Value.str (Str.ofString "__loader__") 168) (Value.builtin "__main__.__loader__#opaque")), (PySem.DictEntry.mk (PySem.PyData.keyHash P (Str.ofString "__spec__")) (Value.str (Str.ofString "__spec__") 169) Value.none), (PySem.DictEntry.mk (PySem.PyData.keyHash P (Str.ofString "__annotations__")) (Value.str (Str.ofString "__annotations__") 170) (Value.ref 6)), (PySem.DictEntry.mk (PySem.PyData.keyHash P (Str.ofString "__builtins__")) (Value.str (Str.ofString "__builtins__") 171) (Value.ref 4)), (PySem.DictEntry.mk (PySem.PyData.keyHash P (Str.ofString "__file__")) (Value.str (Str.ofString "__file__") 173) (Value.str (Str.ofString "/claim/cut.py") 172)), (PySem.DictEntry.mk (PySem.PyData.keyHash P (Str.ofString "__cached__")) (Value.str (Str.ofString "__cached__") 174) Value.none), (PySem.DictEntry.mk (PySem.PyData.keyHash P (Str.ofString "_wall")) (Value.str (Str.ofString "_wall") 193) (Value.ref 21)), (PySem.DictEntry.mk (PySem.PyData.keyHash P (Str.ofString "data_room")) (Value.str (Str.ofString "data_room") 204) (Value.ref 28)), (PySem.DictEntry.mk (PySem.PyData.keyHash P (Str.ofString "YardError")) (Value.str (Str.ofString "YardError") 226) (Value.ref 38)), (PySem.DictEntry.mk (PySem.PyData.keyHash P (Str.ofString "TrapError")) (Value.str (Str.ofString "TrapError") 255) (Value.ref 58)), (PySem.DictEntry.mk (PySem.PyData.keyHash P (Str.ofString "LISTS")) (Value.str (Str.ofString "LISTS") 259) (Value.int (4 : Int) 258)), (PySem.DictEntry.mk (PySem.PyData.keyHash P (Str.ofString "list_number")) (Value.str (Str.ofString "list_number") 266) (Value.ref 67)), (PySem.DictEntry.mk (PySem.PyData.keyHash P (Str.ofString "Heap")) (Value.str (Str.ofString "Heap") 365) (Value.ref 140)), (PySem.DictEntry.mk (PySem.PyData.keyHash P (Str.ofString "Cpu")) (Value.str (Str.ofString "Cpu") 463) (Value.ref 210)), (PySem.DictEntry.mk (PySem.PyData.keyHash P (Str.ofString "WORD")) (Value.str (Str.ofString "WORD") 467) (Value.int (4294967296 : Int) 466)), (PySem.DictEntry.mk (PySem.PyData.keyHash P (Str.ofString "Memory")) (Value.str (Str.ofString "Memory") 539) (Value.ref 266)), (PySem.DictEntry.mk (PySem.PyData.keyHash P (Str.ofString "DATA_START")) (Value.str (Str.ofString "DATA_START") 543) (Value.int (64 : Int) 542)), (PySem.DictEntry.mk (PySem.PyData.keyHash P (Str.ofString "GRAIN")) (Value.str (Str.ofString "GRAIN") 545) (Value.int (16 : Int) 544)), (PySem.DictEntry.mk (PySem.PyData.keyHash P (Str.ofString "COMMAND_END")) (Value.str (Str.ofString "COMMAND_END") 547) (Value.int (9 : Int) 546)), (PySem.DictEntry.mk (PySem.PyData.keyHash P (Str.ofString "rounded")) (Value.str (Str.ofString "rounded") 554) (Value.ref 277)), (PySem.DictEntry.mk (PySem.PyData.keyHash P (Str.ofString "Machine")) (Value.str (Str.ofString "Machine") 672) (Value.ref 358))]) 24) (List.toArray []))
noncomputable def o331 : Params → Obj := fun P => (PySem.Obj.mk Value.none Option.none (Data.fields (List.toArray [(Value.int (1 : Int) 0), (Value.int (0 : Int) 0), (Value.ref 20), (Value.int (5 : Int) 0), (Value.int (0 : Int) 0), (Value.ref 27), (Value.int (11 : Int) 0), (Value.int (0 : Int) 0), (Value.ref 34), (Value.int (13 : Int) 0), (Value.int (0 : Int) 0), (Value.ref 47), (Value.int (21 : Int) 0), (Value.int (0 : Int) 0), (Value.ref 66), (Value.int (29 : Int) 0), (Value.int (0 : Int) 0), (Value.ref 73), (Value.int (66 : Int) 0), (Value.int (0 : Int) 0), (Value.ref 150), (Value.int (101 : Int) 0), (Value.int (0 : Int) 0), (Value.ref 220), (Value.int (127 : Int) 0), (Value.int (0 : Int) 0), (Value.ref 276), (Value.int (129 : Int) 0), (Value.int (0 : Int) 0), (Value.ref 283)])) (List.toArray []))
noncomputable def o332 : Params → Obj := fun P => (PySem.Obj.mk (Value.type "tuple") Option.none (Data.seq (List.toArray []) 0) (List.toArray []))
noncomputable def o333 : Params → Obj := fun P => (PySem.Obj.mk (Value.type "builtin_function_or_method") Option.none (Data.fields (List.toArray [(Value.builtin "type.__prepare__"), (Value.type "type")])) (List.toArray []))
noncomputable def o334 : Params → Obj := fun P => (PySem.Obj.mk (Value.type "dict") Option.none (Data.dict (List.toArray [(PySem.DictEntry.mk (PySem.PyData.keyHash P (Str.ofString "__module__")) (Value.str (Str.ofString "__module__") 562) (Value.str (Str.ofString "moduleyard.machine") 540)), (PySem.DictEntry.mk (PySem.PyData.keyHash P (Str.ofString "__qualname__")) (Value.str (Str.ofString "__qualname__") 564) (Value.str (Str.ofString "Machine") 563)), (PySem.DictEntry.mk (PySem.PyData.keyHash P (Str.ofString "__firstlineno__")) (Value.str (Str.ofString "__firstlineno__") 566) (Value.int (129 : Int) 565)), (PySem.DictEntry.mk (PySem.PyData.keyHash P (Str.ofString "__init__")) (Value.str (Str.ofString "__init__") 582) (Value.ref 292)), (PySem.DictEntry.mk (PySem.PyData.keyHash P (Str.ofString "add_rows")) (Value.str (Str.ofString "add_rows") 590) (Value.ref 299)), (PySem.DictEntry.mk (PySem.PyData.keyHash P (Str.ofString "add_data")) (Value.str (Str.ofString "add_data") 599) (Value.ref 306)), (PySem.DictEntry.mk (PySem.PyData.keyHash P (Str.ofString "state")) (Value.str (Str.ofString "state") 606) (Value.ref 313)), (PySem.DictEntry.mk (PySem.PyData.keyHash P (Str.ofString "back_to")) (Value.str (Str.ofString "back_to") 614) (Value.ref 320)), (PySem.DictEntry.mk (PySem.PyData.keyHash P (Str.ofString "most_frames")) (Value.str (Str.ofString "most_frames") 621) (Value.ref 327)), (PySem.DictEntry.mk (PySem.PyData.keyHash P (Str.ofString "prepare")) (Value.str (Str.ofString "prepare") 629) (Value.ref 334)), (PySem.DictEntry.mk (PySem.PyData.keyHash P (Str.ofString "call")) (Value.str (Str.ofString "call") 637) (Value.ref 341)), (PySem.DictEntry.mk (PySem.PyData.keyHash P (Str.ofString "running_module")) (Value.str (Str.ofString "running_module") 644) (Value.ref 348)), (PySem.DictEntry.mk (PySem.PyData.keyHash P (Str.ofString "kernel")) (Value.str (Str.ofString "kernel") 652) (Value.ref 355)), (PySem.DictEntry.mk (PySem.PyData.keyHash P (Str.ofString "__static_attributes__")) (Value.str (Str.ofString "__static_attributes__") 665) (Value.ref 356))]) 14) (List.toArray []))
noncomputable def o335 : Params → Obj := fun P => (PySem.Obj.mk (Value.type "tuple") Option.none (Data.seq (List.toArray []) 0) (List.toArray []))
noncomputable def o336 : Params → Obj := fun P => (PySem.Obj.mk Value.none Option.none (Data.fields (List.toArray [(Value.int (131 : Int) 0), (Value.int (4 : Int) 0), (Value.ref 291), (Value.int (147 : Int) 0), (Value.int (4 : Int) 0), (Value.ref 298), (Value.int (150 : Int) 0), (Value.int (4 : Int) 0), (Value.ref 305), (Value.int (157 : Int) 0), (Value.int (4 : Int) 0), (Value.ref 312), (Value.int (160 : Int) 0), (Value.int (4 : Int) 0), (Value.ref 319), (Value.int (163 : Int) 0), (Value.int (4 : Int) 0), (Value.ref 326), (Value.int (166 : Int) 0), (Value.int (4 : Int) 0), (Value.ref 333), (Value.int (169 : Int) 0), (Value.int (4 : Int) 0), (Value.ref 340), (Value.int (172 : Int) 0), (Value.int (4 : Int) 0), (Value.ref 347), (Value.int (175 : Int) 0), (Value.int (4 : Int) 0), (Value.ref 354)])) (List.toArray []))
noncomputable def o337 : Params → Obj := fun P => (PySem.Obj.mk (Value.type "code") Option.none (Data.fields (List.toArray [(Value.str (Str.ofString "Machine") 557), (Value.str (Str.ofString "Machine") 558), (Value.str (Str.ofString "/claim/cut.py") 559), (Value.int (129 : Int) 0), (Value.int (0 : Int) 0), (Value.int (0 : Int) 0), (Value.int (0 : Int) 0), (Value.int (0 : Int) 0), (Value.ref 281), (Value.bool Bool.false), (Value.int (181 : Int) 0), (Value.ref 282), Value.none, Value.none, Value.none, Value.none, (Value.int (560 : Int) 0), (Value.int (129 : Int) 0), (Value.str (Str.ofString "/claim/cut.py") 561)])) (List.toArray []))
noncomputable def o338 : Params → Obj := fun P => (PySem.Obj.mk (Value.type "frame") Option.none Data.plain (List.toArray [(Option.some (Value.ref 283)), (Option.some (Value.ref 3)), (Option.some (Value.ref 280)), Option.none, (Option.some (Value.str (Str.ofString "moduleyard.machine") 540)), Option.none, (Option.some (Value.ref 0))]))
noncomputable def o339 : Params → Obj := fun P => (PySem.Obj.mk (Value.type "tuple") Option.none (Data.seq (List.toArray [(Value.int (4096 : Int) 567), (Value.int (4096 : Int) 568), (Value.int (60000 : Int) 569), (Value.int (4096 : Int) 570)]) 0) (List.toArray []))
noncomputable def o340 : Params → Obj := fun P => (PySem.Obj.mk (Value.type "tuple") Option.none (Data.seq (List.toArray []) 0) (List.toArray []))
noncomputable def o341 : Params → Obj := fun P => (PySem.Obj.mk Value.none Option.none (Data.fields (List.toArray [])) (List.toArray []))
noncomputable def o342 : Params → Obj := fun P => (PySem.Obj.mk (Value.type "tuple") Option.none (Data.seq (List.toArray [(Value.str (Str.ofString "self") 574), (Value.str (Str.ofString "heap_bytes") 575), (Value.str (Str.ofString "stack_bytes") 576), (Value.str (Str.ofString "limit") 577), (Value.str (Str.ofString "data_bytes") 578), (Value.str (Str.ofString "heap_limit") 579)]) 0) (List.toArray []))
noncomputable def o343 : Params → Obj := fun P => (PySem.Obj.mk (Value.type "tuple") Option.none (Data.seq (List.toArray []) 0) (List.toArray []))
noncomputable def o344 : Params → Obj := fnAt (st2 20 0) "Machine.__init__" Value.none Option.none (List.toArray []) 0 [] Value.none Value.none Value.none Value.none Option.none Value.none Value.none 0 rfl
noncomputable def o345 : Params → Obj := fun P => (PySem.Obj.mk (Value.type "code") Option.none (Data.fields (List.toArray [(Value.str (Str.ofString "__init__") 571), (Value.str (Str.ofString "Machine.__init__") 572), (Value.str (Str.ofString "/claim/cut.py") 573), (Value.int (131 : Int) 0), (Value.int (5 : Int) 0), (Value.int (0 : Int) 0), (Value.int (0 : Int) 0), (Value.int (3 : Int) 0), (Value.ref 286), (Value.bool Bool.true), (Value.int (181 : Int) 0), (Value.ref 287), Value.none, (Value.ref 288), (Value.ref 289), (Value.ref 290), (Value.int (580 : Int) 0), (Value.int (131 : Int) 0), (Value.str (Str.ofString "/claim/cut.py") 581)])) (List.toArray []))
noncomputable def o346 : Params → Obj := fnAt (st2 20 0) "Machine.__init__" (Value.type "function") Option.none (List.toArray []) 3 [] (Value.ref 285) Value.none Value.none (Value.str (Str.ofString "moduleyard.machine") 540) Option.none (Value.ref 291) Value.none 0 rfl
noncomputable def o347 : Params → Obj := fun P => (PySem.Obj.mk (Value.type "tuple") Option.none (Data.seq (List.toArray []) 0) (List.toArray []))
noncomputable def o348 : Params → Obj := fun P => (PySem.Obj.mk Value.none Option.none (Data.fields (List.toArray [])) (List.toArray []))
noncomputable def o349 : Params → Obj := fun P => (PySem.Obj.mk (Value.type "tuple") Option.none (Data.seq (List.toArray [(Value.str (Str.ofString "self") 586), (Value.str (Str.ofString "rows") 587)]) 0) (List.toArray []))
noncomputable def o350 : Params → Obj := fun P => (PySem.Obj.mk (Value.type "tuple") Option.none (Data.seq (List.toArray []) 0) (List.toArray []))
noncomputable def o351 : Params → Obj := fnAt (st2 20 1) "Machine.add_rows" Value.none Option.none (List.toArray []) 0 [] Value.none Value.none Value.none Value.none Option.none Value.none Value.none 0 rfl
noncomputable def o352 : Params → Obj := fun P => (PySem.Obj.mk (Value.type "code") Option.none (Data.fields (List.toArray [(Value.str (Str.ofString "add_rows") 583), (Value.str (Str.ofString "Machine.add_rows") 584), (Value.str (Str.ofString "/claim/cut.py") 585), (Value.int (147 : Int) 0), (Value.int (2 : Int) 0), (Value.int (0 : Int) 0), (Value.int (0 : Int) 0), (Value.int (3 : Int) 0), (Value.ref 293), (Value.bool Bool.true), (Value.int (181 : Int) 0), (Value.ref 294), Value.none, (Value.ref 295), (Value.ref 296), (Value.ref 297), (Value.int (588 : Int) 0), (Value.int (147 : Int) 0), (Value.str (Str.ofString "/claim/cut.py") 589)])) (List.toArray []))
noncomputable def o353 : Params → Obj := fnAt (st2 20 1) "Machine.add_rows" (Value.type "function") Option.none (List.toArray []) 3 [] Value.none Value.none Value.none (Value.str (Str.ofString "moduleyard.machine") 540) Option.none (Value.ref 298) Value.none 0 rfl
noncomputable def o354 : Params → Obj := fun P => (PySem.Obj.mk (Value.type "tuple") Option.none (Data.seq (List.toArray []) 0) (List.toArray []))
noncomputable def o355 : Params → Obj := fun P => (PySem.Obj.mk Value.none Option.none (Data.fields (List.toArray [])) (List.toArray []))
noncomputable def o356 : Params → Obj := fun P => (PySem.Obj.mk (Value.type "tuple") Option.none (Data.seq (List.toArray [(Value.str (Str.ofString "self") 594), (Value.str (Str.ofString "size") 595), (Value.str (Str.ofString "address") 596)]) 0) (List.toArray []))
noncomputable def o357 : Params → Obj := fun P => (PySem.Obj.mk (Value.type "tuple") Option.none (Data.seq (List.toArray []) 0) (List.toArray []))
noncomputable def o358 : Params → Obj := fnAt (st2 20 2) "Machine.add_data" Value.none Option.none (List.toArray []) 0 [] Value.none Value.none Value.none Value.none Option.none Value.none Value.none 0 rfl
noncomputable def o359 : Params → Obj := fun P => (PySem.Obj.mk (Value.type "code") Option.none (Data.fields (List.toArray [(Value.str (Str.ofString "add_data") 591), (Value.str (Str.ofString "Machine.add_data") 592), (Value.str (Str.ofString "/claim/cut.py") 593), (Value.int (150 : Int) 0), (Value.int (2 : Int) 0), (Value.int (0 : Int) 0), (Value.int (0 : Int) 0), (Value.int (3 : Int) 0), (Value.ref 300), (Value.bool Bool.true), (Value.int (181 : Int) 0), (Value.ref 301), Value.none, (Value.ref 302), (Value.ref 303), (Value.ref 304), (Value.int (597 : Int) 0), (Value.int (150 : Int) 0), (Value.str (Str.ofString "/claim/cut.py") 598)])) (List.toArray []))
noncomputable def o360 : Params → Obj := fnAt (st2 20 2) "Machine.add_data" (Value.type "function") Option.none (List.toArray []) 3 [] Value.none Value.none Value.none (Value.str (Str.ofString "moduleyard.machine") 540) Option.none (Value.ref 305) Value.none 0 rfl
noncomputable def o361 : Params → Obj := fun P => (PySem.Obj.mk (Value.type "tuple") Option.none (Data.seq (List.toArray []) 0) (List.toArray []))
noncomputable def o362 : Params → Obj := fun P => (PySem.Obj.mk Value.none Option.none (Data.fields (List.toArray [])) (List.toArray []))
noncomputable def o363 : Params → Obj := fun P => (PySem.Obj.mk (Value.type "tuple") Option.none (Data.seq (List.toArray [(Value.str (Str.ofString "self") 603)]) 0) (List.toArray []))
noncomputable def o364 : Params → Obj := fun P => (PySem.Obj.mk (Value.type "tuple") Option.none (Data.seq (List.toArray []) 0) (List.toArray []))
noncomputable def o365 : Params → Obj := fnAt (st2 20 3) "Machine.state" Value.none Option.none (List.toArray []) 0 [] Value.none Value.none Value.none Value.none Option.none Value.none Value.none 0 rfl
noncomputable def o366 : Params → Obj := fun P => (PySem.Obj.mk (Value.type "code") Option.none (Data.fields (List.toArray [(Value.str (Str.ofString "state") 600), (Value.str (Str.ofString "Machine.state") 601), (Value.str (Str.ofString "/claim/cut.py") 602), (Value.int (157 : Int) 0), (Value.int (1 : Int) 0), (Value.int (0 : Int) 0), (Value.int (0 : Int) 0), (Value.int (3 : Int) 0), (Value.ref 307), (Value.bool Bool.true), (Value.int (181 : Int) 0), (Value.ref 308), Value.none, (Value.ref 309), (Value.ref 310), (Value.ref 311), (Value.int (604 : Int) 0), (Value.int (157 : Int) 0), (Value.str (Str.ofString "/claim/cut.py") 605)])) (List.toArray []))
noncomputable def o367 : Params → Obj := fnAt (st2 20 3) "Machine.state" (Value.type "function") Option.none (List.toArray []) 3 [] Value.none Value.none Value.none (Value.str (Str.ofString "moduleyard.machine") 540) Option.none (Value.ref 312) Value.none 0 rfl
noncomputable def o368 : Params → Obj := fun P => (PySem.Obj.mk (Value.type "tuple") Option.none (Data.seq (List.toArray []) 0) (List.toArray []))
noncomputable def o369 : Params → Obj := fun P => (PySem.Obj.mk Value.none Option.none (Data.fields (List.toArray [])) (List.toArray []))
noncomputable def o370 : Params → Obj := fun P => (PySem.Obj.mk (Value.type "tuple") Option.none (Data.seq (List.toArray [(Value.str (Str.ofString "self") 610), (Value.str (Str.ofString "state") 611)]) 0) (List.toArray []))
noncomputable def o371 : Params → Obj := fun P => (PySem.Obj.mk (Value.type "tuple") Option.none (Data.seq (List.toArray []) 0) (List.toArray []))
noncomputable def o372 : Params → Obj := fnAt (st2 20 4) "Machine.back_to" Value.none Option.none (List.toArray []) 0 [] Value.none Value.none Value.none Value.none Option.none Value.none Value.none 0 rfl
noncomputable def o373 : Params → Obj := fun P => (PySem.Obj.mk (Value.type "code") Option.none (Data.fields (List.toArray [(Value.str (Str.ofString "back_to") 607), (Value.str (Str.ofString "Machine.back_to") 608), (Value.str (Str.ofString "/claim/cut.py") 609), (Value.int (160 : Int) 0), (Value.int (2 : Int) 0), (Value.int (0 : Int) 0), (Value.int (0 : Int) 0), (Value.int (3 : Int) 0), (Value.ref 314), (Value.bool Bool.true), (Value.int (181 : Int) 0), (Value.ref 315), Value.none, (Value.ref 316), (Value.ref 317), (Value.ref 318), (Value.int (612 : Int) 0), (Value.int (160 : Int) 0), (Value.str (Str.ofString "/claim/cut.py") 613)])) (List.toArray []))
noncomputable def o374 : Params → Obj := fnAt (st2 20 4) "Machine.back_to" (Value.type "function") Option.none (List.toArray []) 3 [] Value.none Value.none Value.none (Value.str (Str.ofString "moduleyard.machine") 540) Option.none (Value.ref 319) Value.none 0 rfl
noncomputable def o375 : Params → Obj := fun P => (PySem.Obj.mk (Value.type "tuple") Option.none (Data.seq (List.toArray []) 0) (List.toArray []))
noncomputable def o376 : Params → Obj := fun P => (PySem.Obj.mk Value.none Option.none (Data.fields (List.toArray [])) (List.toArray []))
noncomputable def o377 : Params → Obj := fun P => (PySem.Obj.mk (Value.type "tuple") Option.none (Data.seq (List.toArray [(Value.str (Str.ofString "self") 618)]) 0) (List.toArray []))
noncomputable def o378 : Params → Obj := fun P => (PySem.Obj.mk (Value.type "tuple") Option.none (Data.seq (List.toArray []) 0) (List.toArray []))
noncomputable def o379 : Params → Obj := fnAt (st2 20 5) "Machine.most_frames" Value.none Option.none (List.toArray []) 0 [] Value.none Value.none Value.none Value.none Option.none Value.none Value.none 0 rfl
noncomputable def o380 : Params → Obj := fun P => (PySem.Obj.mk (Value.type "code") Option.none (Data.fields (List.toArray [(Value.str (Str.ofString "most_frames") 615), (Value.str (Str.ofString "Machine.most_frames") 616), (Value.str (Str.ofString "/claim/cut.py") 617), (Value.int (163 : Int) 0), (Value.int (1 : Int) 0), (Value.int (0 : Int) 0), (Value.int (0 : Int) 0), (Value.int (3 : Int) 0), (Value.ref 321), (Value.bool Bool.true), (Value.int (181 : Int) 0), (Value.ref 322), Value.none, (Value.ref 323), (Value.ref 324), (Value.ref 325), (Value.int (619 : Int) 0), (Value.int (163 : Int) 0), (Value.str (Str.ofString "/claim/cut.py") 620)])) (List.toArray []))
noncomputable def o381 : Params → Obj := fnAt (st2 20 5) "Machine.most_frames" (Value.type "function") Option.none (List.toArray []) 3 [] Value.none Value.none Value.none (Value.str (Str.ofString "moduleyard.machine") 540) Option.none (Value.ref 326) Value.none 0 rfl
noncomputable def o382 : Params → Obj := fun P => (PySem.Obj.mk (Value.type "tuple") Option.none (Data.seq (List.toArray []) 0) (List.toArray []))
noncomputable def o383 : Params → Obj := fun P => (PySem.Obj.mk Value.none Option.none (Data.fields (List.toArray [])) (List.toArray []))
noncomputable def o384 : Params → Obj := fun P => (PySem.Obj.mk (Value.type "tuple") Option.none (Data.seq (List.toArray [(Value.str (Str.ofString "self") 625), (Value.str (Str.ofString "row") 626)]) 0) (List.toArray []))
noncomputable def o385 : Params → Obj := fun P => (PySem.Obj.mk (Value.type "tuple") Option.none (Data.seq (List.toArray []) 0) (List.toArray []))
noncomputable def o386 : Params → Obj := fnAt (st2 20 6) "Machine.prepare" Value.none Option.none (List.toArray []) 0 [] Value.none Value.none Value.none Value.none Option.none Value.none Value.none 0 rfl
noncomputable def o387 : Params → Obj := fun P => (PySem.Obj.mk (Value.type "code") Option.none (Data.fields (List.toArray [(Value.str (Str.ofString "prepare") 622), (Value.str (Str.ofString "Machine.prepare") 623), (Value.str (Str.ofString "/claim/cut.py") 624), (Value.int (166 : Int) 0), (Value.int (2 : Int) 0), (Value.int (0 : Int) 0), (Value.int (0 : Int) 0), (Value.int (3 : Int) 0), (Value.ref 328), (Value.bool Bool.true), (Value.int (181 : Int) 0), (Value.ref 329), Value.none, (Value.ref 330), (Value.ref 331), (Value.ref 332), (Value.int (627 : Int) 0), (Value.int (166 : Int) 0), (Value.str (Str.ofString "/claim/cut.py") 628)])) (List.toArray []))
noncomputable def o388 : Params → Obj := fnAt (st2 20 6) "Machine.prepare" (Value.type "function") Option.none (List.toArray []) 3 [] Value.none Value.none Value.none (Value.str (Str.ofString "moduleyard.machine") 540) Option.none (Value.ref 333) Value.none 0 rfl
noncomputable def o389 : Params → Obj := fun P => (PySem.Obj.mk (Value.type "tuple") Option.none (Data.seq (List.toArray []) 0) (List.toArray []))
noncomputable def o390 : Params → Obj := fun P => (PySem.Obj.mk Value.none Option.none (Data.fields (List.toArray [])) (List.toArray []))
noncomputable def o391 : Params → Obj := fun P => (PySem.Obj.mk (Value.type "tuple") Option.none (Data.seq (List.toArray [(Value.str (Str.ofString "self") 633), (Value.str (Str.ofString "row") 634)]) 0) (List.toArray []))
noncomputable def o392 : Params → Obj := fun P => (PySem.Obj.mk (Value.type "tuple") Option.none (Data.seq (List.toArray []) 0) (List.toArray []))
noncomputable def o393 : Params → Obj := fnAt (st2 20 7) "Machine.call" Value.none Option.none (List.toArray []) 0 [] Value.none Value.none Value.none Value.none Option.none Value.none Value.none 0 rfl
noncomputable def o394 : Params → Obj := fun P => (PySem.Obj.mk (Value.type "code") Option.none (Data.fields (List.toArray [(Value.str (Str.ofString "call") 630), (Value.str (Str.ofString "Machine.call") 631), (Value.str (Str.ofString "/claim/cut.py") 632), (Value.int (169 : Int) 0), (Value.int (2 : Int) 0), (Value.int (0 : Int) 0), (Value.int (0 : Int) 0), (Value.int (3 : Int) 0), (Value.ref 335), (Value.bool Bool.true), (Value.int (181 : Int) 0), (Value.ref 336), Value.none, (Value.ref 337), (Value.ref 338), (Value.ref 339), (Value.int (635 : Int) 0), (Value.int (169 : Int) 0), (Value.str (Str.ofString "/claim/cut.py") 636)])) (List.toArray []))
noncomputable def o395 : Params → Obj := fnAt (st2 20 7) "Machine.call" (Value.type "function") Option.none (List.toArray []) 3 [] Value.none Value.none Value.none (Value.str (Str.ofString "moduleyard.machine") 540) Option.none (Value.ref 340) Value.none 0 rfl
noncomputable def o396 : Params → Obj := fun P => (PySem.Obj.mk (Value.type "tuple") Option.none (Data.seq (List.toArray []) 0) (List.toArray []))
noncomputable def o397 : Params → Obj := fun P => (PySem.Obj.mk Value.none Option.none (Data.fields (List.toArray [])) (List.toArray []))
noncomputable def o398 : Params → Obj := fun P => (PySem.Obj.mk (Value.type "tuple") Option.none (Data.seq (List.toArray [(Value.str (Str.ofString "self") 641)]) 0) (List.toArray []))
noncomputable def o399 : Params → Obj := fun P => (PySem.Obj.mk (Value.type "tuple") Option.none (Data.seq (List.toArray []) 0) (List.toArray []))
noncomputable def o400 : Params → Obj := fnAt (st2 20 8) "Machine.running_module" Value.none Option.none (List.toArray []) 0 [] Value.none Value.none Value.none Value.none Option.none Value.none Value.none 0 rfl
noncomputable def o401 : Params → Obj := fun P => (PySem.Obj.mk (Value.type "code") Option.none (Data.fields (List.toArray [(Value.str (Str.ofString "running_module") 638), (Value.str (Str.ofString "Machine.running_module") 639), (Value.str (Str.ofString "/claim/cut.py") 640), (Value.int (172 : Int) 0), (Value.int (1 : Int) 0), (Value.int (0 : Int) 0), (Value.int (0 : Int) 0), (Value.int (3 : Int) 0), (Value.ref 342), (Value.bool Bool.true), (Value.int (181 : Int) 0), (Value.ref 343), Value.none, (Value.ref 344), (Value.ref 345), (Value.ref 346), (Value.int (642 : Int) 0), (Value.int (172 : Int) 0), (Value.str (Str.ofString "/claim/cut.py") 643)])) (List.toArray []))
noncomputable def o402 : Params → Obj := fnAt (st2 20 8) "Machine.running_module" (Value.type "function") Option.none (List.toArray []) 3 [] Value.none Value.none Value.none (Value.str (Str.ofString "moduleyard.machine") 540) Option.none (Value.ref 347) Value.none 0 rfl
noncomputable def o403 : Params → Obj := fun P => (PySem.Obj.mk (Value.type "tuple") Option.none (Data.seq (List.toArray []) 0) (List.toArray []))
noncomputable def o404 : Params → Obj := fun P => (PySem.Obj.mk Value.none Option.none (Data.fields (List.toArray [])) (List.toArray []))
noncomputable def o405 : Params → Obj := fun P => (PySem.Obj.mk (Value.type "tuple") Option.none (Data.seq (List.toArray [(Value.str (Str.ofString "self") 648), (Value.str (Str.ofString "number") 649)]) 0) (List.toArray []))
noncomputable def o406 : Params → Obj := fun P => (PySem.Obj.mk (Value.type "tuple") Option.none (Data.seq (List.toArray []) 0) (List.toArray []))
noncomputable def o407 : Params → Obj := fnAt (st2 20 9) "Machine.kernel" Value.none Option.none (List.toArray []) 0 [] Value.none Value.none Value.none Value.none Option.none Value.none Value.none 0 rfl
noncomputable def o408 : Params → Obj := fun P => (PySem.Obj.mk (Value.type "code") Option.none (Data.fields (List.toArray [(Value.str (Str.ofString "kernel") 645), (Value.str (Str.ofString "Machine.kernel") 646), (Value.str (Str.ofString "/claim/cut.py") 647), (Value.int (175 : Int) 0), (Value.int (2 : Int) 0), (Value.int (0 : Int) 0), (Value.int (0 : Int) 0), (Value.int (3 : Int) 0), (Value.ref 349), (Value.bool Bool.true), (Value.int (181 : Int) 0), (Value.ref 350), Value.none, (Value.ref 351), (Value.ref 352), (Value.ref 353), (Value.int (650 : Int) 0), (Value.int (175 : Int) 0), (Value.str (Str.ofString "/claim/cut.py") 651)])) (List.toArray []))
noncomputable def o409 : Params → Obj := fnAt (st2 20 9) "Machine.kernel" (Value.type "function") Option.none (List.toArray []) 3 [] Value.none Value.none Value.none (Value.str (Str.ofString "moduleyard.machine") 540) Option.none (Value.ref 354) Value.none 0 rfl
noncomputable def o410 : Params → Obj := fun P => (PySem.Obj.mk (Value.type "tuple") Option.none (Data.seq (List.toArray [(Value.str (Str.ofString "cpu") 653), (Value.str (Str.ofString "data_limit") 654), (Value.str (Str.ofString "data_top") 655), (Value.str (Str.ofString "given") 656), (Value.str (Str.ofString "gone") 657), (Value.str (Str.ofString "heap") 658), (Value.str (Str.ofString "limit") 659), (Value.str (Str.ofString "loaded") 660), (Value.str (Str.ofString "memory") 661), (Value.str (Str.ofString "out") 662), (Value.str (Str.ofString "stack_low") 663), (Value.str (Str.ofString "steps") 664)]) 0) (List.toArray []))
noncomputable def o411 : Params → Obj := fun P => (PySem.Obj.mk (Value.type "dict") Option.none (Data.dict (List.toArray [(PySem.DictEntry.mk (PySem.PyData.keyHash P (Str.ofString "__module__")) (Value.str (Str.ofString "__module__") 562) (Value.str (Str.ofString "moduleyard.machine") 540)), (PySem.DictEntry.mk (PySem.PyData.keyHash P (Str.ofString "__firstlineno__")) (Value.str (Str.ofString "__firstlineno__") 566) (Value.int (129 : Int) 565)), (PySem.DictEntry.mk (PySem.PyData.keyHash P (Str.ofString "__init__")) (Value.str (Str.ofString "__init__") 582) (Value.ref 292)), (PySem.DictEntry.mk (PySem.PyData.keyHash P (Str.ofString "add_rows")) (Value.str (Str.ofString "add_rows") 590) (Value.ref 299)), (PySem.DictEntry.mk (PySem.PyData.keyHash P (Str.ofString "add_data")) (Value.str (Str.ofString "add_data") 599) (Value.ref 306)), (PySem.DictEntry.mk (PySem.PyData.keyHash P (Str.ofString "state")) (Value.str (Str.ofString "state") 606) (Value.ref 313)), (PySem.DictEntry.mk (PySem.PyData.keyHash P (Str.ofString "back_to")) (Value.str (Str.ofString "back_to") 614) (Value.ref 320)), (PySem.DictEntry.mk (PySem.PyData.keyHash P (Str.ofString "most_frames")) (Value.str (Str.ofString "most_frames") 621) (Value.ref 327)), (PySem.DictEntry.mk (PySem.PyData.keyHash P (Str.ofString "prepare")) (Value.str (Str.ofString "prepare") 629) (Value.ref 334)), (PySem.DictEntry.mk (PySem.PyData.keyHash P (Str.ofString "call")) (Value.str (Str.ofString "call") 637) (Value.ref 341)), (PySem.DictEntry.mk (PySem.PyData.keyHash P (Str.ofString "running_module")) (Value.str (Str.ofString "running_module") 644) (Value.ref 348)), (PySem.DictEntry.mk (PySem.PyData.keyHash P (Str.ofString "kernel")) (Value.str (Str.ofString "kernel") 652) (Value.ref 355)), (PySem.DictEntry.mk (PySem.PyData.keyHash P (Str.ofString "__static_attributes__")) (Value.str (Str.ofString "__static_attributes__") 665) (Value.ref 356)), (PySem.DictEntry.mk (PySem.PyData.keyHash P (Str.ofString "__dict__")) (Value.str (Str.ofString "__dict__") 667) (Value.ref 359)), (PySem.DictEntry.mk (PySem.PyData.keyHash P (Str.ofString "__weakref__")) (Value.str (Str.ofString "__weakref__") 669) (Value.ref 360)), (PySem.DictEntry.mk (PySem.PyData.keyHash P (Str.ofString "__doc__")) (Value.str (Str.ofString "__doc__") 670) Value.none)]) 4) (List.toArray []))
noncomputable def o412 : Params → Obj := fun P => (PySem.Obj.mk (Value.type "type") Option.none (Data.cls (PySem.ClassData.mk (Str.ofString "Machine") [(Value.type "object")] [(Value.ref 358), (Value.type "object")] 357 (Str.ofString "Machine") Bool.true [] [] Bool.false Option.none Bool.false)) (List.toArray [Option.none, Option.none, (Option.some (Value.str (Str.ofString "Machine") 555)), (Option.some (Value.str (Str.ofString "Machine") 563)), (Option.some (Value.builtin "object.__new__")), (Option.some (Value.bool Bool.true))]))
noncomputable def o413 : Params → Obj := fun P => (PySem.Obj.mk (Value.type "getset_descriptor") Option.none (Data.fields (List.toArray [(Value.str (Str.ofString "__dict__") 666), (Value.ref 358), (Value.builtin "function.__dict__"), (Value.builtin "function.__dict__#set")])) (List.toArray []))
noncomputable def o414 : Params → Obj := fun P => (PySem.Obj.mk (Value.type "getset_descriptor") Option.none (Data.fields (List.toArray [(Value.str (Str.ofString "__weakref__") 668), (Value.ref 358), (Value.builtin "ExceptionGroup.__weakref__"), Value.none])) (List.toArray []))
noncomputable def o415 : Params → Obj := fun P => (PySem.Obj.mk (Value.type "super") Option.none (Data.fields (List.toArray [(Value.ref 358), (Value.ref 358), (Value.ref 358)])) (List.toArray []))
noncomputable def o416 : Params → Obj := fun P => (PySem.Obj.mk (Value.type "builtin_function_or_method") Option.none (Data.fields (List.toArray [(Value.builtin "object.__init_subclass__"), (Value.ref 358)])) (List.toArray []))
noncomputable def o417 : Params → Obj := fun P => (PySem.Obj.mk (Value.type "dict") Option.none (Data.dict (List.toArray [(PySem.DictEntry.mk (PySem.PyData.keyHash P (Str.ofString "__name__")) (Value.str (Str.ofString "__name__") 165) (Value.str (Str.ofString "law_pq0773_01") 717)), (PySem.DictEntry.mk (PySem.PyData.keyHash P (Str.ofString "__doc__")) (Value.str (Str.ofString "__doc__") 166) Value.none), (PySem.DictEntry.mk (PySem.PyData.keyHash P (Str.ofString "__package__")) (Value.str (Str.ofString "__package__") 167) Value.none), (PySem.DictEntry.mk (PySem.PyData.keyHash P (Str.ofString "__loader__")) (Value.str (Str.ofString "__loader__") 168) (Value.builtin "__main__.__loader__#opaque")), (PySem.DictEntry.mk (PySem.PyData.keyHash P (Str.ofString "__spec__")) (Value.str (Str.ofString "__spec__") 169) Value.none), (PySem.DictEntry.mk (PySem.PyData.keyHash P (Str.ofString "__annotations__")) (Value.str (Str.ofString "__annotations__") 170) (Value.ref 6)), (PySem.DictEntry.mk (PySem.PyData.keyHash P (Str.ofString "__builtins__")) (Value.str (Str.ofString "__builtins__") 171) (Value.ref 4)), (PySem.DictEntry.mk (PySem.PyData.keyHash P (Str.ofString "__file__")) (Value.str (Str.ofString "__file__") 173) (Value.str (Str.ofString "/claim/cut.py") 172)), (PySem.DictEntry.mk (PySem.PyData.keyHash P (Str.ofString "__cached__")) (Value.str (Str.ofString "__cached__") 174) Value.none), (PySem.DictEntry.mk (PySem.PyData.keyHash P (Str.ofString "_wall")) (Value.str (Str.ofString "_wall") 193) (Value.ref 21)), (PySem.DictEntry.mk (PySem.PyData.keyHash P (Str.ofString "data_room")) (Value.str (Str.ofString "data_room") 204) (Value.ref 28)), (PySem.DictEntry.mk (PySem.PyData.keyHash P (Str.ofString "YardError")) (Value.str (Str.ofString "YardError") 226) (Value.ref 38)), (PySem.DictEntry.mk (PySem.PyData.keyHash P (Str.ofString "TrapError")) (Value.str (Str.ofString "TrapError") 255) (Value.ref 58)), (PySem.DictEntry.mk (PySem.PyData.keyHash P (Str.ofString "LISTS")) (Value.str (Str.ofString "LISTS") 259) (Value.int (4 : Int) 258)), (PySem.DictEntry.mk (PySem.PyData.keyHash P (Str.ofString "list_number")) (Value.str (Str.ofString "list_number") 266) (Value.ref 67)), (PySem.DictEntry.mk (PySem.PyData.keyHash P (Str.ofString "Heap")) (Value.str (Str.ofString "Heap") 365) (Value.ref 140)), (PySem.DictEntry.mk (PySem.PyData.keyHash P (Str.ofString "Cpu")) (Value.str (Str.ofString "Cpu") 463) (Value.ref 210)), (PySem.DictEntry.mk (PySem.PyData.keyHash P (Str.ofString "WORD")) (Value.str (Str.ofString "WORD") 467) (Value.int (4294967296 : Int) 466)), (PySem.DictEntry.mk (PySem.PyData.keyHash P (Str.ofString "Memory")) (Value.str (Str.ofString "Memory") 539) (Value.ref 266)), (PySem.DictEntry.mk (PySem.PyData.keyHash P (Str.ofString "DATA_START")) (Value.str (Str.ofString "DATA_START") 543) (Value.int (64 : Int) 542)), (PySem.DictEntry.mk (PySem.PyData.keyHash P (Str.ofString "GRAIN")) (Value.str (Str.ofString "GRAIN") 545) (Value.int (16 : Int) 544)), (PySem.DictEntry.mk (PySem.PyData.keyHash P (Str.ofString "COMMAND_END")) (Value.str (Str.ofString "COMMAND_END") 547) (Value.int (9 : Int) 546)), (PySem.DictEntry.mk (PySem.PyData.keyHash P (Str.ofString "rounded")) (Value.str (Str.ofString "rounded") 554) (Value.ref 277)), (PySem.DictEntry.mk (PySem.PyData.keyHash P (Str.ofString "Machine")) (Value.str (Str.ofString "Machine") 672) (Value.ref 358)), (PySem.DictEntry.mk (PySem.PyData.keyHash P (Str.ofString "ObjectFile")) (Value.str (Str.ofString "ObjectFile") 716) (Value.ref 379)), (PySem.DictEntry.mk (PySem.PyData.keyHash P (Str.ofString "_law_take")) (Value.str (Str.ofString "_law_take") 728) (Value.ref 390)), (PySem.DictEntry.mk (PySem.PyData.keyHash P (Str.ofString "law")) (Value.str (Str.ofString "law") 748) (Value.ref 397))]) 27) (List.toArray []))
noncomputable def o418 : Params → Obj := fun P => (PySem.Obj.mk Value.none Option.none (Data.fields (List.toArray ((Value.int (1 : Int) 0) :: (Value.int (0 : Int) 0) :: (Value.ref 20) :: (Value.int (5 : Int) 0) :: (Value.int (0 : Int) 0) :: (Value.ref 27) :: (Value.int (11 : Int) 0) :: (Value.int (0 : Int) 0) :: (Value.ref 34) :: (Value.int (13 : Int) 0) :: (Value.int (0 : Int) 0) :: (Value.ref 47) :: (Value.int (21 : Int) 0) :: (Value.int (0 : Int) 0) :: (Value.ref 66) :: (Value.int (29 : Int) 0) :: (Value.int (0 : Int) 0) :: (Value.ref 73) :: (Value.int (66 : Int) 0) :: (Value.int (0 : Int) 0) :: (Value.ref 150) :: (Value.int (101 : Int) 0) :: (Value.int (0 : Int) 0) :: (Value.ref 220) :: (Value.int (127 : Int) 0) :: (Value.int (0 : Int) 0) :: (Value.ref 276) :: (Value.int (129 : Int) 0) :: (Value.int (0 : Int) 0) :: (Value.ref 283) :: (Value.int (178 : Int) 0) :: (Value.int (0 : Int) 0) :: (Value.ref 368) :: (Value.int (195 : Int) 0) :: (Value.int (0 : Int) 0) :: (Value.ref 389) :: (Value.int (201 : Int) 0) :: (Value.int (0 : Int) 0) :: (Value.ref 396) :: []))) (List.toArray []))
noncomputable def o419 : Params → Obj := fun P => (PySem.Obj.mk (Value.type "tuple") Option.none (Data.seq (List.toArray []) 0) (List.toArray []))
noncomputable def o420 : Params → Obj := fun P => (PySem.Obj.mk (Value.type "builtin_function_or_method") Option.none (Data.fields (List.toArray [(Value.builtin "type.__prepare__"), (Value.type "type")])) (List.toArray []))
noncomputable def o421 : Params → Obj := fun P => (PySem.Obj.mk (Value.type "dict") Option.none (Data.dict (List.toArray [(PySem.DictEntry.mk (PySem.PyData.keyHash P (Str.ofString "__module__")) (Value.str (Str.ofString "__module__") 682) (Value.str (Str.ofString "moduleyard.objfile") 673)), (PySem.DictEntry.mk (PySem.PyData.keyHash P (Str.ofString "__qualname__")) (Value.str (Str.ofString "__qualname__") 684) (Value.str (Str.ofString "ObjectFile") 683)), (PySem.DictEntry.mk (PySem.PyData.keyHash P (Str.ofString "__firstlineno__")) (Value.str (Str.ofString "__firstlineno__") 686) (Value.int (178 : Int) 685)), (PySem.DictEntry.mk (PySem.PyData.keyHash P (Str.ofString "__init__")) (Value.str (Str.ofString "__init__") 695) (Value.ref 376)), (PySem.DictEntry.mk (PySem.PyData.keyHash P (Str.ofString "__static_attributes__")) (Value.str (Str.ofString "__static_attributes__") 709) (Value.ref 377))]) 5) (List.toArray []))
noncomputable def o422 : Params → Obj := fun P => (PySem.Obj.mk (Value.type "tuple") Option.none (Data.seq (List.toArray []) 0) (List.toArray []))
noncomputable def o423 : Params → Obj := fun P => (PySem.Obj.mk Value.none Option.none (Data.fields (List.toArray [(Value.int (180 : Int) 0), (Value.int (4 : Int) 0), (Value.ref 375)])) (List.toArray []))
noncomputable def o424 : Params → Obj := fun P => (PySem.Obj.mk (Value.type "code") Option.none (Data.fields (List.toArray [(Value.str (Str.ofString "ObjectFile") 677), (Value.str (Str.ofString "ObjectFile") 678), (Value.str (Str.ofString "/claim/cut.py") 679), (Value.int (178 : Int) 0), (Value.int (0 : Int) 0), (Value.int (0 : Int) 0), (Value.int (0 : Int) 0), (Value.int (0 : Int) 0), (Value.ref 366), (Value.bool Bool.false), (Value.int (181 : Int) 0), (Value.ref 367), Value.none, Value.none, Value.none, Value.none, (Value.int (680 : Int) 0), (Value.int (178 : Int) 0), (Value.str (Str.ofString "/claim/cut.py") 681)])) (List.toArray []))
noncomputable def o425 : Params → Obj := fun P => (PySem.Obj.mk (Value.type "frame") Option.none Data.plain (List.toArray [(Option.some (Value.ref 368)), (Option.some (Value.ref 3)), (Option.some (Value.ref 365)), Option.none, (Option.some (Value.str (Str.ofString "moduleyard.objfile") 673)), Option.none, (Option.some (Value.ref 0))]))
noncomputable def o426 : Params → Obj := fun P => (PySem.Obj.mk (Value.type "tuple") Option.none (Data.seq (List.toArray []) 0) (List.toArray []))
noncomputable def o427 : Params → Obj := fun P => (PySem.Obj.mk Value.none Option.none (Data.fields (List.toArray [])) (List.toArray []))
noncomputable def o428 : Params → Obj := fun P => (PySem.Obj.mk (Value.type "tuple") Option.none (Data.seq (List.toArray [(Value.str (Str.ofString "self") 690), (Value.str (Str.ofString "name") 691), (Value.str (Str.ofString "key") 692)]) 0) (List.toArray []))
noncomputable def o429 : Params → Obj := fun P => (PySem.Obj.mk (Value.type "tuple") Option.none (Data.seq (List.toArray []) 0) (List.toArray []))
noncomputable def o430 : Params → Obj := fnAt (st2 22 0) "ObjectFile.__init__" Value.none Option.none (List.toArray []) 0 [] Value.none Value.none Value.none Value.none Option.none Value.none Value.none 0 rfl
noncomputable def o431 : Params → Obj := fun P => (PySem.Obj.mk (Value.type "code") Option.none (Data.fields (List.toArray [(Value.str (Str.ofString "__init__") 687), (Value.str (Str.ofString "ObjectFile.__init__") 688), (Value.str (Str.ofString "/claim/cut.py") 689), (Value.int (180 : Int) 0), (Value.int (3 : Int) 0), (Value.int (0 : Int) 0), (Value.int (0 : Int) 0), (Value.int (3 : Int) 0), (Value.ref 370), (Value.bool Bool.true), (Value.int (181 : Int) 0), (Value.ref 371), Value.none, (Value.ref 372), (Value.ref 373), (Value.ref 374), (Value.int (693 : Int) 0), (Value.int (180 : Int) 0), (Value.str (Str.ofString "/claim/cut.py") 694)])) (List.toArray []))
noncomputable def o432 : Params → Obj := fnAt (st2 22 0) "ObjectFile.__init__" (Value.type "function") Option.none (List.toArray []) 3 [] Value.none Value.none Value.none (Value.str (Str.ofString "moduleyard.objfile") 673) Option.none (Value.ref 375) Value.none 0 rfl
noncomputable def o433 : Params → Obj := fun P => (PySem.Obj.mk (Value.type "tuple") Option.none (Data.seq (List.toArray [(Value.str (Str.ofString "body") 696), (Value.str (Str.ofString "commands") 697), (Value.str (Str.ofString "data_fixups") 698), (Value.str (Str.ofString "data_size") 699), (Value.str (Str.ofString "entries") 700), (Value.str (Str.ofString "fixups") 701), (Value.str (Str.ofString "imports") 702), (Value.str (Str.ofString "key") 703), (Value.str (Str.ofString "maps") 704), (Value.str (Str.ofString "name") 705), (Value.str (Str.ofString "pointers") 706), (Value.str (Str.ofString "rows") 707), (Value.str (Str.ofString "words") 708)]) 0) (List.toArray []))
noncomputable def o434 : Params → Obj := fun P => (PySem.Obj.mk (Value.type "dict") Option.none (Data.dict (List.toArray [(PySem.DictEntry.mk (PySem.PyData.keyHash P (Str.ofString "__module__")) (Value.str (Str.ofString "__module__") 682) (Value.str (Str.ofString "moduleyard.objfile") 673)), (PySem.DictEntry.mk (PySem.PyData.keyHash P (Str.ofString "__firstlineno__")) (Value.str (Str.ofString "__firstlineno__") 686) (Value.int (178 : Int) 685)), (PySem.DictEntry.mk (PySem.PyData.keyHash P (Str.ofString "__init__")) (Value.str (Str.ofString "__init__") 695) (Value.ref 376)), (PySem.DictEntry.mk (PySem.PyData.keyHash P (Str.ofString "__static_attributes__")) (Value.str (Str.ofString "__static_attributes__") 709) (Value.ref 377)), (PySem.DictEntry.mk (PySem.PyData.keyHash P (Str.ofString "__dict__")) (Value.str (Str.ofString "__dict__") 711) (Value.ref 380)), (PySem.DictEntry.mk (PySem.PyData.keyHash P (Str.ofString "__weakref__")) (Value.str (Str.ofString "__weakref__") 713) (Value.ref 381)), (PySem.DictEntry.mk (PySem.PyData.keyHash P (Str.ofString "__doc__")) (Value.str (Str.ofString "__doc__") 714) Value.none)]) 4) (List.toArray []))
noncomputable def o435 : Params → Obj := fun P => (PySem.Obj.mk (Value.type "type") Option.none (Data.cls (PySem.ClassData.mk (Str.ofString "ObjectFile") [(Value.type "object")] [(Value.ref 379), (Value.type "object")] 378 (Str.ofString "ObjectFile") Bool.true [] [] Bool.false Option.none Bool.false)) (List.toArray [Option.none, Option.none, (Option.some (Value.str (Str.ofString "ObjectFile") 675)), (Option.some (Value.str (Str.ofString "ObjectFile") 683)), (Option.some (Value.builtin "object.__new__")), (Option.some (Value.bool Bool.true))]))
noncomputable def o436 : Params → Obj := fun P => (PySem.Obj.mk (Value.type "getset_descriptor") Option.none (Data.fields (List.toArray [(Value.str (Str.ofString "__dict__") 710), (Value.ref 379), (Value.builtin "function.__dict__"), (Value.builtin "function.__dict__#set")])) (List.toArray []))
noncomputable def o437 : Params → Obj := fun P => (PySem.Obj.mk (Value.type "getset_descriptor") Option.none (Data.fields (List.toArray [(Value.str (Str.ofString "__weakref__") 712), (Value.ref 379), (Value.builtin "ExceptionGroup.__weakref__"), Value.none])) (List.toArray []))
noncomputable def o438 : Params → Obj := fun P => (PySem.Obj.mk (Value.type "super") Option.none (Data.fields (List.toArray [(Value.ref 379), (Value.ref 379), (Value.ref 379)])) (List.toArray []))
noncomputable def o439 : Params → Obj := fun P => (PySem.Obj.mk (Value.type "builtin_function_or_method") Option.none (Data.fields (List.toArray [(Value.builtin "object.__init_subclass__"), (Value.ref 379)])) (List.toArray []))
noncomputable def o440 : Params → Obj := fun P => (PySem.Obj.mk (Value.type "tuple") Option.none (Data.seq (List.toArray []) 0) (List.toArray []))
noncomputable def o441 : Params → Obj := fun P => (PySem.Obj.mk Value.none Option.none (Data.fields (List.toArray [])) (List.toArray []))
noncomputable def o442 : Params → Obj := fun P => (PySem.Obj.mk (Value.type "tuple") Option.none (Data.seq (List.toArray [(Value.str (Str.ofString "state") 722), (Value.str (Str.ofString "most") 723), (Value.str (Str.ofString "row") 724), (Value.str (Str.ofString "at") 725)]) 0) (List.toArray []))
noncomputable def o443 : Params → Obj := fun P => (PySem.Obj.mk (Value.type "tuple") Option.none (Data.seq (List.toArray []) 0) (List.toArray []))
noncomputable def o444 : Params → Obj := fnAt (st1 24) "_law_take" Value.none Option.none (List.toArray []) 0 [] Value.none Value.none Value.none Value.none Option.none Value.none Value.none 0 rfl
noncomputable def o445 : Params → Obj := fun P => (PySem.Obj.mk (Value.type "code") Option.none (Data.fields (List.toArray [(Value.str (Str.ofString "_law_take") 719), (Value.str (Str.ofString "_law_take") 720), (Value.str (Str.ofString "/claim/cut.py") 721), (Value.int (195 : Int) 0), (Value.int (2 : Int) 0), (Value.int (0 : Int) 0), (Value.int (0 : Int) 0), (Value.int (3 : Int) 0), (Value.ref 384), (Value.bool Bool.true), (Value.int (181 : Int) 0), (Value.ref 385), Value.none, (Value.ref 386), (Value.ref 387), (Value.ref 388), (Value.int (726 : Int) 0), (Value.int (195 : Int) 0), (Value.str (Str.ofString "/claim/cut.py") 727)])) (List.toArray []))
noncomputable def o446 : Params → Obj := fnAt (st1 24) "_law_take" (Value.type "function") Option.none (List.toArray []) 3 [] Value.none Value.none Value.none (Value.str (Str.ofString "law_pq0773_01") 717) Option.none (Value.ref 389) Value.none 0 rfl
noncomputable def o447 : Params → Obj := fun P => (PySem.Obj.mk (Value.type "tuple") Option.none (Data.seq (List.toArray []) 0) (List.toArray []))
noncomputable def o448 : Params → Obj := fun P => (PySem.Obj.mk Value.none Option.none (Data.fields (List.toArray [])) (List.toArray []))
noncomputable def o449 : Params → Obj := fun P => (PySem.Obj.mk (Value.type "tuple") Option.none (Data.seq (List.toArray [(Value.str (Str.ofString "script") 732), (Value.str (Str.ofString "state") 733), (Value.str (Str.ofString "objects") 734), (Value.str (Str.ofString "sizes") 735), (Value.str (Str.ofString "whole_sum") 736), (Value.str (Str.ofString "at") 737), (Value.str (Str.ofString "made") 738), (Value.str (Str.ofString "due") 739), (Value.str (Str.ofString "machine") 740), (Value.str (Str.ofString "start") 741), (Value.str (Str.ofString "top") 742), (Value.str (Str.ofString "size") 743), (Value.str (Str.ofString "left") 744), (Value.str (Str.ofString "error") 745)]) 0) (List.toArray []))
noncomputable def o450 : Params → Obj := fun P => (PySem.Obj.mk (Value.type "tuple") Option.none (Data.seq (List.toArray []) 0) (List.toArray []))
noncomputable def o451 : Params → Obj := fnAt (st1 25) "law" Value.none Option.none (List.toArray []) 0 [] Value.none Value.none Value.none Value.none Option.none Value.none Value.none 0 rfl
noncomputable def o452 : Params → Obj := fun P => (PySem.Obj.mk (Value.type "code") Option.none (Data.fields (List.toArray [(Value.str (Str.ofString "law") 729), (Value.str (Str.ofString "law") 730), (Value.str (Str.ofString "/claim/cut.py") 731), (Value.int (201 : Int) 0), (Value.int (1 : Int) 0), (Value.int (0 : Int) 0), (Value.int (0 : Int) 0), (Value.int (3 : Int) 0), (Value.ref 391), (Value.bool Bool.true), (Value.int (181 : Int) 0), (Value.ref 392), Value.none, (Value.ref 393), (Value.ref 394), (Value.ref 395), (Value.int (746 : Int) 0), (Value.int (201 : Int) 0), (Value.str (Str.ofString "/claim/cut.py") 747)])) (List.toArray []))
noncomputable def o453 : Params → Obj := fnAt (st1 25) "law" (Value.type "function") Option.none (List.toArray []) 3 [] Value.none Value.none Value.none (Value.str (Str.ofString "law_pq0773_01") 717) Option.none (Value.ref 396) Value.none 0 rfl
noncomputable def tree_47 : Params → BT := fun P => (PySem.W.BT.node (PySem.W.boot_o_0 P) (PySem.W.BT.node (PySem.W.boot_o_1 P) (PySem.W.BT.node (PySem.W.boot_o_3 P) (PySem.W.BT.node (PySem.W.boot_o_7 P) PySem.W.BT.nil PySem.W.BT.nil) (PySem.W.BT.node (o43 P) PySem.W.BT.nil PySem.W.BT.nil)) (PySem.W.BT.node (PySem.W.boot_o_5 P) (PySem.W.BT.node (PySem.W.boot_o_9 P) PySem.W.BT.nil PySem.W.BT.nil) (PySem.W.BT.node (o45 P) PySem.W.BT.nil PySem.W.BT.nil))) (PySem.W.BT.node (PySem.W.boot_o_2 P) (PySem.W.BT.node (PySem.W.boot_o_4 P) (PySem.W.BT.node (PySem.W.boot_o_8 P) PySem.W.BT.nil PySem.W.BT.nil) (PySem.W.BT.node (o44 P) PySem.W.BT.nil PySem.W.BT.nil)) (PySem.W.BT.node (PySem.W.boot_o_6 P) (PySem.W.BT.node (PySem.W.boot_o_10 P) PySem.W.BT.nil PySem.W.BT.nil) (PySem.W.BT.node (o46 P) PySem.W.BT.nil PySem.W.BT.nil))))
noncomputable def tree_107 : Params → BT := fun P => (PySem.W.BT.node (PySem.W.boot_o_0 P) (PySem.W.BT.node (PySem.W.boot_o_1 P) (PySem.W.BT.node (o79 P) (PySem.W.BT.node (PySem.W.boot_o_7 P) (PySem.W.BT.node (o52 P) (PySem.W.BT.node (o68 P) (PySem.W.BT.node (o103 P) PySem.W.BT.nil PySem.W.BT.nil) PySem.W.BT.nil) (PySem.W.BT.node (o87 P) PySem.W.BT.nil PySem.W.BT.nil)) (PySem.W.BT.node (o60 P) (PySem.W.BT.node (o76 P) PySem.W.BT.nil PySem.W.BT.nil) (PySem.W.BT.node (o95 P) PySem.W.BT.nil PySem.W.BT.nil))) (PySem.W.BT.node (o43 P) (PySem.W.BT.node (o56 P) (PySem.W.BT.node (o72 P) (PySem.W.BT.node (o107 P) PySem.W.BT.nil PySem.W.BT.nil) PySem.W.BT.nil) (PySem.W.BT.node (o91 P) PySem.W.BT.nil PySem.W.BT.nil)) (PySem.W.BT.node (o64 P) (PySem.W.BT.node (o83 P) PySem.W.BT.nil PySem.W.BT.nil) (PySem.W.BT.node (o99 P) PySem.W.BT.nil PySem.W.BT.nil)))) (PySem.W.BT.node (PySem.W.boot_o_5 P) (PySem.W.BT.node (PySem.W.boot_o_9 P) (PySem.W.BT.node (o54 P) (PySem.W.BT.node (o70 P) (PySem.W.BT.node (o105 P) PySem.W.BT.nil PySem.W.BT.nil) PySem.W.BT.nil) (PySem.W.BT.node (o89 P) PySem.W.BT.nil PySem.W.BT.nil)) (PySem.W.BT.node (o62 P) (PySem.W.BT.node (o78 P) PySem.W.BT.nil PySem.W.BT.nil) (PySem.W.BT.node (o97 P) PySem.W.BT.nil PySem.W.BT.nil))) (PySem.W.BT.node (o45 P) (PySem.W.BT.node (o58 P) (PySem.W.BT.node (o74 P) PySem.W.BT.nil PySem.W.BT.nil) (PySem.W.BT.node (o93 P) PySem.W.BT.nil PySem.W.BT.nil)) (PySem.W.BT.node (o66 P) (PySem.W.BT.node (o85 P) PySem.W.BT.nil PySem.W.BT.nil) (PySem.W.BT.node (o101 P) PySem.W.BT.nil PySem.W.BT.nil))))) (PySem.W.BT.node (o49 P) (PySem.W.BT.node (PySem.W.boot_o_4 P) (PySem.W.BT.node (PySem.W.boot_o_8 P) (PySem.W.BT.node (o53 P) (PySem.W.BT.node (o69 P) (PySem.W.BT.node (o104 P) PySem.W.BT.nil PySem.W.BT.nil) PySem.W.BT.nil) (PySem.W.BT.node (o88 P) PySem.W.BT.nil PySem.W.BT.nil)) (PySem.W.BT.node (o61 P) (PySem.W.BT.node (o77 P) PySem.W.BT.nil PySem.W.BT.nil) (PySem.W.BT.node (o96 P) PySem.W.BT.nil PySem.W.BT.nil))) (PySem.W.BT.node (o80 P) (PySem.W.BT.node (o57 P) (PySem.W.BT.node (o73 P) PySem.W.BT.nil PySem.W.BT.nil) (PySem.W.BT.node (o92 P) PySem.W.BT.nil PySem.W.BT.nil)) (PySem.W.BT.node (o65 P) (PySem.W.BT.node (o84 P) PySem.W.BT.nil PySem.W.BT.nil) (PySem.W.BT.node (o100 P) PySem.W.BT.nil PySem.W.BT.nil)))) (PySem.W.BT.node (PySem.W.boot_o_6 P) (PySem.W.BT.node (PySem.W.boot_o_10 P) (PySem.W.BT.node (o55 P) (PySem.W.BT.node (o71 P) (PySem.W.BT.node (o106 P) PySem.W.BT.nil PySem.W.BT.nil) PySem.W.BT.nil) (PySem.W.BT.node (o90 P) PySem.W.BT.nil PySem.W.BT.nil)) (PySem.W.BT.node (o63 P) (PySem.W.BT.node (o82 P) PySem.W.BT.nil PySem.W.BT.nil) (PySem.W.BT.node (o98 P) PySem.W.BT.nil PySem.W.BT.nil))) (PySem.W.BT.node (o46 P) (PySem.W.BT.node (o59 P) (PySem.W.BT.node (o81 P) PySem.W.BT.nil PySem.W.BT.nil) (PySem.W.BT.node (o94 P) PySem.W.BT.nil PySem.W.BT.nil)) (PySem.W.BT.node (o67 P) (PySem.W.BT.node (o86 P) PySem.W.BT.nil PySem.W.BT.nil) (PySem.W.BT.node (o102 P) PySem.W.BT.nil PySem.W.BT.nil))))))
noncomputable def tree_187 : Params → BT := fun P => (PySem.W.BT.node (PySem.W.boot_o_0 P) (PySem.W.BT.node (PySem.W.boot_o_1 P) (PySem.W.BT.node (o187 P) (PySem.W.BT.node (PySem.W.boot_o_7 P) (PySem.W.BT.node (o52 P) (PySem.W.BT.node (o68 P) (PySem.W.BT.node (o103 P) (PySem.W.BT.node (o169 P) PySem.W.BT.nil PySem.W.BT.nil) PySem.W.BT.nil) (PySem.W.BT.node (o137 P) PySem.W.BT.nil PySem.W.BT.nil)) (PySem.W.BT.node (o87 P) (PySem.W.BT.node (o121 P) (PySem.W.BT.node (o185 P) PySem.W.BT.nil PySem.W.BT.nil) PySem.W.BT.nil) (PySem.W.BT.node (o153 P) PySem.W.BT.nil PySem.W.BT.nil))) (PySem.W.BT.node (o60 P) (PySem.W.BT.node (o76 P) (PySem.W.BT.node (o113 P) (PySem.W.BT.node (o177 P) PySem.W.BT.nil PySem.W.BT.nil) PySem.W.BT.nil) (PySem.W.BT.node (o145 P) PySem.W.BT.nil PySem.W.BT.nil)) (PySem.W.BT.node (o95 P) (PySem.W.BT.node (o129 P) PySem.W.BT.nil PySem.W.BT.nil) (PySem.W.BT.node (o161 P) PySem.W.BT.nil PySem.W.BT.nil)))) (PySem.W.BT.node (o43 P) (PySem.W.BT.node (o56 P) (PySem.W.BT.node (o72 P) (PySem.W.BT.node (o107 P) (PySem.W.BT.node (o173 P) PySem.W.BT.nil PySem.W.BT.nil) PySem.W.BT.nil) (PySem.W.BT.node (o141 P) PySem.W.BT.nil PySem.W.BT.nil)) (PySem.W.BT.node (o91 P) (PySem.W.BT.node (o125 P) PySem.W.BT.nil PySem.W.BT.nil) (PySem.W.BT.node (o157 P) PySem.W.BT.nil PySem.W.BT.nil))) (PySem.W.BT.node (o64 P) (PySem.W.BT.node (o83 P) (PySem.W.BT.node (o117 P) (PySem.W.BT.node (o181 P) PySem.W.BT.nil PySem.W.BT.nil) PySem.W.BT.nil) (PySem.W.BT.node (o149 P) PySem.W.BT.nil PySem.W.BT.nil)) (PySem.W.BT.node (o99 P) (PySem.W.BT.node (o133 P) PySem.W.BT.nil PySem.W.BT.nil) (PySem.W.BT.node (o165 P) PySem.W.BT.nil PySem.W.BT.nil))))) (PySem.W.BT.node (PySem.W.boot_o_5 P) (PySem.W.BT.node (PySem.W.boot_o_9 P) (PySem.W.BT.node (o54 P) (PySem.W.BT.node (o70 P) (PySem.W.BT.node (o105 P) (PySem.W.BT.node (o171 P) PySem.W.BT.nil PySem.W.BT.nil) PySem.W.BT.nil) (PySem.W.BT.node (o139 P) PySem.W.BT.nil PySem.W.BT.nil)) (PySem.W.BT.node (o89 P) (PySem.W.BT.node (o123 P) PySem.W.BT.nil PySem.W.BT.nil) (PySem.W.BT.node (o155 P) PySem.W.BT.nil PySem.W.BT.nil))) (PySem.W.BT.node (o62 P) (PySem.W.BT.node (o78 P) (PySem.W.BT.node (o115 P) (PySem.W.BT.node (o179 P) PySem.W.BT.nil PySem.W.BT.nil) PySem.W.BT.nil) (PySem.W.BT.node (o147 P) PySem.W.BT.nil PySem.W.BT.nil)) (PySem.W.BT.node (o97 P) (PySem.W.BT.node (o131 P) PySem.W.BT.nil PySem.W.BT.nil) (PySem.W.BT.node (o163 P) PySem.W.BT.nil PySem.W.BT.nil)))) (PySem.W.BT.node (o45 P) (PySem.W.BT.node (o58 P) (PySem.W.BT.node (o74 P) (PySem.W.BT.node (o111 P) (PySem.W.BT.node (o175 P) PySem.W.BT.nil PySem.W.BT.nil) PySem.W.BT.nil) (PySem.W.BT.node (o143 P) PySem.W.BT.nil PySem.W.BT.nil)) (PySem.W.BT.node (o93 P) (PySem.W.BT.node (o127 P) PySem.W.BT.nil PySem.W.BT.nil) (PySem.W.BT.node (o159 P) PySem.W.BT.nil PySem.W.BT.nil))) (PySem.W.BT.node (o66 P) (PySem.W.BT.node (o85 P) (PySem.W.BT.node (o119 P) (PySem.W.BT.node (o183 P) PySem.W.BT.nil PySem.W.BT.nil) PySem.W.BT.nil) (PySem.W.BT.node (o151 P) PySem.W.BT.nil PySem.W.BT.nil)) (PySem.W.BT.node (o101 P) (PySem.W.BT.node (o135 P) PySem.W.BT.nil PySem.W.BT.nil) (PySem.W.BT.node (o167 P) PySem.W.BT.nil PySem.W.BT.nil)))))) (PySem.W.BT.node (o49 P) (PySem.W.BT.node (PySem.W.boot_o_4 P) (PySem.W.BT.node (PySem.W.boot_o_8 P) (PySem.W.BT.node (o53 P) (PySem.W.BT.node (o69 P) (PySem.W.BT.node (o104 P) (PySem.W.BT.node (o170 P) PySem.W.BT.nil PySem.W.BT.nil) PySem.W.BT.nil) (PySem.W.BT.node (o138 P) PySem.W.BT.nil PySem.W.BT.nil)) (PySem.W.BT.node (o88 P) (PySem.W.BT.node (o122 P) (PySem.W.BT.node (o186 P) PySem.W.BT.nil PySem.W.BT.nil) PySem.W.BT.nil) (PySem.W.BT.node (o154 P) PySem.W.BT.nil PySem.W.BT.nil))) (PySem.W.BT.node (o61 P) (PySem.W.BT.node (o77 P) (PySem.W.BT.node (o114 P) (PySem.W.BT.node (o178 P) PySem.W.BT.nil PySem.W.BT.nil) PySem.W.BT.nil) (PySem.W.BT.node (o146 P) PySem.W.BT.nil PySem.W.BT.nil)) (PySem.W.BT.node (o96 P) (PySem.W.BT.node (o130 P) PySem.W.BT.nil PySem.W.BT.nil) (PySem.W.BT.node (o162 P) PySem.W.BT.nil PySem.W.BT.nil)))) (PySem.W.BT.node (o109 P) (PySem.W.BT.node (o57 P) (PySem.W.BT.node (o73 P) (PySem.W.BT.node (o110 P) (PySem.W.BT.node (o174 P) PySem.W.BT.nil PySem.W.BT.nil) PySem.W.BT.nil) (PySem.W.BT.node (o142 P) PySem.W.BT.nil PySem.W.BT.nil)) (PySem.W.BT.node (o92 P) (PySem.W.BT.node (o126 P) PySem.W.BT.nil PySem.W.BT.nil) (PySem.W.BT.node (o158 P) PySem.W.BT.nil PySem.W.BT.nil))) (PySem.W.BT.node (o65 P) (PySem.W.BT.node (o84 P) (PySem.W.BT.node (o118 P) (PySem.W.BT.node (o182 P) PySem.W.BT.nil PySem.W.BT.nil) PySem.W.BT.nil) (PySem.W.BT.node (o150 P) PySem.W.BT.nil PySem.W.BT.nil)) (PySem.W.BT.node (o100 P) (PySem.W.BT.node (o134 P) PySem.W.BT.nil PySem.W.BT.nil) (PySem.W.BT.node (o166 P) PySem.W.BT.nil PySem.W.BT.nil))))) (PySem.W.BT.node (PySem.W.boot_o_6 P) (PySem.W.BT.node (PySem.W.boot_o_10 P) (PySem.W.BT.node (o55 P) (PySem.W.BT.node (o71 P) (PySem.W.BT.node (o106 P) (PySem.W.BT.node (o172 P) PySem.W.BT.nil PySem.W.BT.nil) PySem.W.BT.nil) (PySem.W.BT.node (o140 P) PySem.W.BT.nil PySem.W.BT.nil)) (PySem.W.BT.node (o90 P) (PySem.W.BT.node (o124 P) PySem.W.BT.nil PySem.W.BT.nil) (PySem.W.BT.node (o156 P) PySem.W.BT.nil PySem.W.BT.nil))) (PySem.W.BT.node (o63 P) (PySem.W.BT.node (o82 P) (PySem.W.BT.node (o116 P) (PySem.W.BT.node (o180 P) PySem.W.BT.nil PySem.W.BT.nil) PySem.W.BT.nil) (PySem.W.BT.node (o148 P) PySem.W.BT.nil PySem.W.BT.nil)) (PySem.W.BT.node (o98 P) (PySem.W.BT.node (o132 P) PySem.W.BT.nil PySem.W.BT.nil) (PySem.W.BT.node (o164 P) PySem.W.BT.nil PySem.W.BT.nil)))) (PySem.W.BT.node (o46 P) (PySem.W.BT.node (o59 P) (PySem.W.BT.node (o81 P) (PySem.W.BT.node (o112 P) (PySem.W.BT.node (o176 P) PySem.W.BT.nil PySem.W.BT.nil) PySem.W.BT.nil) (PySem.W.BT.node (o144 P) PySem.W.BT.nil PySem.W.BT.nil)) (PySem.W.BT.node (o94 P) (PySem.W.BT.node (o128 P) PySem.W.BT.nil PySem.W.BT.nil) (PySem.W.BT.node (o160 P) PySem.W.BT.nil PySem.W.BT.nil))) (PySem.W.BT.node (o67 P) (PySem.W.BT.node (o86 P) (PySem.W.BT.node (o120 P) (PySem.W.BT.node (o184 P) PySem.W.BT.nil PySem.W.BT.nil) PySem.W.BT.nil) (PySem.W.BT.node (o152 P) PySem.W.BT.nil PySem.W.BT.nil)) (PySem.W.BT.node (o102 P) (PySem.W.BT.node (o136 P) PySem.W.BT.nil PySem.W.BT.nil) (PySem.W.BT.node (o168 P) PySem.W.BT.nil PySem.W.BT.nil)))))))
noncomputable def tree_261 : Params → BT := fun P => (PySem.W.BT.node (PySem.W.boot_o_0 P) (PySem.W.BT.node (PySem.W.boot_o_1 P) (PySem.W.BT.node (o261 P) (PySem.W.BT.node (PySem.W.boot_o_7 P) (PySem.W.BT.node (o52 P) (PySem.W.BT.node (o68 P) (PySem.W.BT.node (o103 P) (PySem.W.BT.node (o169 P) PySem.W.BT.nil PySem.W.BT.nil) (PySem.W.BT.node (o237 P) PySem.W.BT.nil PySem.W.BT.nil)) (PySem.W.BT.node (o137 P) (PySem.W.BT.node (o205 P) PySem.W.BT.nil PySem.W.BT.nil) PySem.W.BT.nil)) (PySem.W.BT.node (o87 P) (PySem.W.BT.node (o121 P) (PySem.W.BT.node (o185 P) PySem.W.BT.nil PySem.W.BT.nil) (PySem.W.BT.node (o253 P) PySem.W.BT.nil PySem.W.BT.nil)) (PySem.W.BT.node (o153 P) (PySem.W.BT.node (o221 P) PySem.W.BT.nil PySem.W.BT.nil) PySem.W.BT.nil))) (PySem.W.BT.node (o60 P) (PySem.W.BT.node (o76 P) (PySem.W.BT.node (o113 P) (PySem.W.BT.node (o177 P) PySem.W.BT.nil PySem.W.BT.nil) (PySem.W.BT.node (o245 P) PySem.W.BT.nil PySem.W.BT.nil)) (PySem.W.BT.node (o145 P) (PySem.W.BT.node (o213 P) PySem.W.BT.nil PySem.W.BT.nil) PySem.W.BT.nil)) (PySem.W.BT.node (o95 P) (PySem.W.BT.node (o129 P) (PySem.W.BT.node (o197 P) PySem.W.BT.nil PySem.W.BT.nil) PySem.W.BT.nil) (PySem.W.BT.node (o161 P) (PySem.W.BT.node (o229 P) PySem.W.BT.nil PySem.W.BT.nil) PySem.W.BT.nil)))) (PySem.W.BT.node (o43 P) (PySem.W.BT.node (o56 P) (PySem.W.BT.node (o72 P) (PySem.W.BT.node (o107 P) (PySem.W.BT.node (o173 P) PySem.W.BT.nil PySem.W.BT.nil) (PySem.W.BT.node (o241 P) PySem.W.BT.nil PySem.W.BT.nil)) (PySem.W.BT.node (o141 P) (PySem.W.BT.node (o209 P) PySem.W.BT.nil PySem.W.BT.nil) PySem.W.BT.nil)) (PySem.W.BT.node (o91 P) (PySem.W.BT.node (o125 P) (PySem.W.BT.node (o193 P) PySem.W.BT.nil PySem.W.BT.nil) (PySem.W.BT.node (o257 P) PySem.W.BT.nil PySem.W.BT.nil)) (PySem.W.BT.node (o157 P) (PySem.W.BT.node (o225 P) PySem.W.BT.nil PySem.W.BT.nil) PySem.W.BT.nil))) (PySem.W.BT.node (o64 P) (PySem.W.BT.node (o83 P) (PySem.W.BT.node (o117 P) (PySem.W.BT.node (o181 P) PySem.W.BT.nil PySem.W.BT.nil) (PySem.W.BT.node (o249 P) PySem.W.BT.nil PySem.W.BT.nil)) (PySem.W.BT.node (o149 P) (PySem.W.BT.node (o217 P) PySem.W.BT.nil PySem.W.BT.nil) PySem.W.BT.nil)) (PySem.W.BT.node (o99 P) (PySem.W.BT.node (o133 P) (PySem.W.BT.node (o201 P) PySem.W.BT.nil PySem.W.BT.nil) PySem.W.BT.nil) (PySem.W.BT.node (o165 P) (PySem.W.BT.node (o233 P) PySem.W.BT.nil PySem.W.BT.nil) PySem.W.BT.nil))))) (PySem.W.BT.node (PySem.W.boot_o_5 P) (PySem.W.BT.node (PySem.W.boot_o_9 P) (PySem.W.BT.node (o54 P) (PySem.W.BT.node (o70 P) (PySem.W.BT.node (o105 P) (PySem.W.BT.node (o171 P) PySem.W.BT.nil PySem.W.BT.nil) (PySem.W.BT.node (o239 P) PySem.W.BT.nil PySem.W.BT.nil)) (PySem.W.BT.node (o139 P) (PySem.W.BT.node (o207 P) PySem.W.BT.nil PySem.W.BT.nil) PySem.W.BT.nil)) (PySem.W.BT.node (o89 P) (PySem.W.BT.node (o123 P) (PySem.W.BT.node (o191 P) PySem.W.BT.nil PySem.W.BT.nil) (PySem.W.BT.node (o255 P) PySem.W.BT.nil PySem.W.BT.nil)) (PySem.W.BT.node (o155 P) (PySem.W.BT.node (o223 P) PySem.W.BT.nil PySem.W.BT.nil) PySem.W.BT.nil))) (PySem.W.BT.node (o62 P) (PySem.W.BT.node (o78 P) (PySem.W.BT.node (o115 P) (PySem.W.BT.node (o179 P) PySem.W.BT.nil PySem.W.BT.nil) (PySem.W.BT.node (o247 P) PySem.W.BT.nil PySem.W.BT.nil)) (PySem.W.BT.node (o147 P) (PySem.W.BT.node (o215 P) PySem.W.BT.nil PySem.W.BT.nil) PySem.W.BT.nil)) (PySem.W.BT.node (o97 P) (PySem.W.BT.node (o131 P) (PySem.W.BT.node (o199 P) PySem.W.BT.nil PySem.W.BT.nil) PySem.W.BT.nil) (PySem.W.BT.node (o163 P) (PySem.W.BT.node (o231 P) PySem.W.BT.nil PySem.W.BT.nil) PySem.W.BT.nil)))) (PySem.W.BT.node (o45 P) (PySem.W.BT.node (o58 P) (PySem.W.BT.node (o74 P) (PySem.W.BT.node (o111 P) (PySem.W.BT.node (o175 P) PySem.W.BT.nil PySem.W.BT.nil) (PySem.W.BT.node (o243 P) PySem.W.BT.nil PySem.W.BT.nil)) (PySem.W.BT.node (o143 P) (PySem.W.BT.node (o211 P) PySem.W.BT.nil PySem.W.BT.nil) PySem.W.BT.nil)) (PySem.W.BT.node (o93 P) (PySem.W.BT.node (o127 P) (PySem.W.BT.node (o195 P) PySem.W.BT.nil PySem.W.BT.nil) (PySem.W.BT.node (o259 P) PySem.W.BT.nil PySem.W.BT.nil)) (PySem.W.BT.node (o159 P) (PySem.W.BT.node (o227 P) PySem.W.BT.nil PySem.W.BT.nil) PySem.W.BT.nil))) (PySem.W.BT.node (o66 P) (PySem.W.BT.node (o85 P) (PySem.W.BT.node (o119 P) (PySem.W.BT.node (o183 P) PySem.W.BT.nil PySem.W.BT.nil) (PySem.W.BT.node (o251 P) PySem.W.BT.nil PySem.W.BT.nil)) (PySem.W.BT.node (o151 P) (PySem.W.BT.node (o219 P) PySem.W.BT.nil PySem.W.BT.nil) PySem.W.BT.nil)) (PySem.W.BT.node (o101 P) (PySem.W.BT.node (o135 P) (PySem.W.BT.node (o203 P) PySem.W.BT.nil PySem.W.BT.nil) PySem.W.BT.nil) (PySem.W.BT.node (o167 P) (PySem.W.BT.node (o235 P) PySem.W.BT.nil PySem.W.BT.nil) PySem.W.BT.nil)))))) (PySem.W.BT.node (o49 P) (PySem.W.BT.node (PySem.W.boot_o_4 P) (PySem.W.BT.node (PySem.W.boot_o_8 P) (PySem.W.BT.node (o53 P) (PySem.W.BT.node (o69 P) (PySem.W.BT.node (o104 P) (PySem.W.BT.node (o170 P) PySem.W.BT.nil PySem.W.BT.nil) (PySem.W.BT.node (o238 P) PySem.W.BT.nil PySem.W.BT.nil)) (PySem.W.BT.node (o138 P) (PySem.W.BT.node (o206 P) PySem.W.BT.nil PySem.W.BT.nil) PySem.W.BT.nil)) (PySem.W.BT.node (o88 P) (PySem.W.BT.node (o122 P) (PySem.W.BT.node (o186 P) PySem.W.BT.nil PySem.W.BT.nil) (PySem.W.BT.node (o254 P) PySem.W.BT.nil PySem.W.BT.nil)) (PySem.W.BT.node (o154 P) (PySem.W.BT.node (o222 P) PySem.W.BT.nil PySem.W.BT.nil) PySem.W.BT.nil))) (PySem.W.BT.node (o61 P) (PySem.W.BT.node (o77 P) (PySem.W.BT.node (o114 P) (PySem.W.BT.node (o178 P) PySem.W.BT.nil PySem.W.BT.nil) (PySem.W.BT.node (o246 P) PySem.W.BT.nil PySem.W.BT.nil)) (PySem.W.BT.node (o146 P) (PySem.W.BT.node (o214 P) PySem.W.BT.nil PySem.W.BT.nil) PySem.W.BT.nil)) (PySem.W.BT.node (o96 P) (PySem.W.BT.node (o130 P) (PySem.W.BT.node (o198 P) PySem.W.BT.nil PySem.W.BT.nil) PySem.W.BT.nil) (PySem.W.BT.node (o162 P) (PySem.W.BT.node (o230 P) PySem.W.BT.nil PySem.W.BT.nil) PySem.W.BT.nil)))) (PySem.W.BT.node (o190 P) (PySem.W.BT.node (o57 P) (PySem.W.BT.node (o73 P) (PySem.W.BT.node (o110 P) (PySem.W.BT.node (o174 P) PySem.W.BT.nil PySem.W.BT.nil) (PySem.W.BT.node (o242 P) PySem.W.BT.nil PySem.W.BT.nil)) (PySem.W.BT.node (o142 P) (PySem.W.BT.node (o210 P) PySem.W.BT.nil PySem.W.BT.nil) PySem.W.BT.nil)) (PySem.W.BT.node (o92 P) (PySem.W.BT.node (o126 P) (PySem.W.BT.node (o194 P) PySem.W.BT.nil PySem.W.BT.nil) (PySem.W.BT.node (o258 P) PySem.W.BT.nil PySem.W.BT.nil)) (PySem.W.BT.node (o158 P) (PySem.W.BT.node (o226 P) PySem.W.BT.nil PySem.W.BT.nil) PySem.W.BT.nil))) (PySem.W.BT.node (o65 P) (PySem.W.BT.node (o84 P) (PySem.W.BT.node (o118 P) (PySem.W.BT.node (o182 P) PySem.W.BT.nil PySem.W.BT.nil) (PySem.W.BT.node (o250 P) PySem.W.BT.nil PySem.W.BT.nil)) (PySem.W.BT.node (o150 P) (PySem.W.BT.node (o218 P) PySem.W.BT.nil PySem.W.BT.nil) PySem.W.BT.nil)) (PySem.W.BT.node (o100 P) (PySem.W.BT.node (o134 P) (PySem.W.BT.node (o202 P) PySem.W.BT.nil PySem.W.BT.nil) PySem.W.BT.nil) (PySem.W.BT.node (o166 P) (PySem.W.BT.node (o234 P) PySem.W.BT.nil PySem.W.BT.nil) PySem.W.BT.nil))))) (PySem.W.BT.node (PySem.W.boot_o_6 P) (PySem.W.BT.node (PySem.W.boot_o_10 P) (PySem.W.BT.node (o55 P) (PySem.W.BT.node (o71 P) (PySem.W.BT.node (o106 P) (PySem.W.BT.node (o172 P) PySem.W.BT.nil PySem.W.BT.nil) (PySem.W.BT.node (o240 P) PySem.W.BT.nil PySem.W.BT.nil)) (PySem.W.BT.node (o140 P) (PySem.W.BT.node (o208 P) PySem.W.BT.nil PySem.W.BT.nil) PySem.W.BT.nil)) (PySem.W.BT.node (o90 P) (PySem.W.BT.node (o124 P) (PySem.W.BT.node (o192 P) PySem.W.BT.nil PySem.W.BT.nil) (PySem.W.BT.node (o256 P) PySem.W.BT.nil PySem.W.BT.nil)) (PySem.W.BT.node (o156 P) (PySem.W.BT.node (o224 P) PySem.W.BT.nil PySem.W.BT.nil) PySem.W.BT.nil))) (PySem.W.BT.node (o63 P) (PySem.W.BT.node (o82 P) (PySem.W.BT.node (o116 P) (PySem.W.BT.node (o180 P) PySem.W.BT.nil PySem.W.BT.nil) (PySem.W.BT.node (o248 P) PySem.W.BT.nil PySem.W.BT.nil)) (PySem.W.BT.node (o148 P) (PySem.W.BT.node (o216 P) PySem.W.BT.nil PySem.W.BT.nil) PySem.W.BT.nil)) (PySem.W.BT.node (o98 P) (PySem.W.BT.node (o132 P) (PySem.W.BT.node (o200 P) PySem.W.BT.nil PySem.W.BT.nil) PySem.W.BT.nil) (PySem.W.BT.node (o164 P) (PySem.W.BT.node (o232 P) PySem.W.BT.nil PySem.W.BT.nil) PySem.W.BT.nil)))) (PySem.W.BT.node (o46 P) (PySem.W.BT.node (o59 P) (PySem.W.BT.node (o81 P) (PySem.W.BT.node (o112 P) (PySem.W.BT.node (o176 P) PySem.W.BT.nil PySem.W.BT.nil) (PySem.W.BT.node (o244 P) PySem.W.BT.nil PySem.W.BT.nil)) (PySem.W.BT.node (o144 P) (PySem.W.BT.node (o212 P) PySem.W.BT.nil PySem.W.BT.nil) PySem.W.BT.nil)) (PySem.W.BT.node (o94 P) (PySem.W.BT.node (o128 P) (PySem.W.BT.node (o196 P) PySem.W.BT.nil PySem.W.BT.nil) (PySem.W.BT.node (o260 P) PySem.W.BT.nil PySem.W.BT.nil)) (PySem.W.BT.node (o160 P) (PySem.W.BT.node (o228 P) PySem.W.BT.nil PySem.W.BT.nil) PySem.W.BT.nil))) (PySem.W.BT.node (o67 P) (PySem.W.BT.node (o86 P) (PySem.W.BT.node (o120 P) (PySem.W.BT.node (o184 P) PySem.W.BT.nil PySem.W.BT.nil) (PySem.W.BT.node (o252 P) PySem.W.BT.nil PySem.W.BT.nil)) (PySem.W.BT.node (o152 P) (PySem.W.BT.node (o220 P) PySem.W.BT.nil PySem.W.BT.nil) PySem.W.BT.nil)) (PySem.W.BT.node (o102 P) (PySem.W.BT.node (o136 P) (PySem.W.BT.node (o204 P) PySem.W.BT.nil PySem.W.BT.nil) PySem.W.BT.nil) (PySem.W.BT.node (o168 P) (PySem.W.BT.node (o236 P) PySem.W.BT.nil PySem.W.BT.nil) PySem.W.BT.nil)))))))
noncomputable def tree_329 : Params → BT := fun P => (PySem.W.BT.node (PySem.W.boot_o_0 P) (PySem.W.BT.node (PySem.W.boot_o_1 P) (PySem.W.BT.node (o321 P) (PySem.W.BT.node (PySem.W.boot_o_7 P) (PySem.W.BT.node (o52 P) (PySem.W.BT.node (o68 P) (PySem.W.BT.node (o103 P) (PySem.W.BT.node (o169 P) (PySem.W.BT.node (o305 P) PySem.W.BT.nil PySem.W.BT.nil) PySem.W.BT.nil) (PySem.W.BT.node (o237 P) PySem.W.BT.nil PySem.W.BT.nil)) (PySem.W.BT.node (o137 P) (PySem.W.BT.node (o205 P) PySem.W.BT.nil PySem.W.BT.nil) (PySem.W.BT.node (o273 P) PySem.W.BT.nil PySem.W.BT.nil))) (PySem.W.BT.node (o87 P) (PySem.W.BT.node (o121 P) (PySem.W.BT.node (o185 P) (PySem.W.BT.node (o323 P) PySem.W.BT.nil PySem.W.BT.nil) PySem.W.BT.nil) (PySem.W.BT.node (o253 P) PySem.W.BT.nil PySem.W.BT.nil)) (PySem.W.BT.node (o153 P) (PySem.W.BT.node (o221 P) PySem.W.BT.nil PySem.W.BT.nil) (PySem.W.BT.node (o289 P) PySem.W.BT.nil PySem.W.BT.nil)))) (PySem.W.BT.node (o60 P) (PySem.W.BT.node (o76 P) (PySem.W.BT.node (o113 P) (PySem.W.BT.node (o177 P) (PySem.W.BT.node (o313 P) PySem.W.BT.nil PySem.W.BT.nil) PySem.W.BT.nil) (PySem.W.BT.node (o245 P) PySem.W.BT.nil PySem.W.BT.nil)) (PySem.W.BT.node (o145 P) (PySem.W.BT.node (o213 P) PySem.W.BT.nil PySem.W.BT.nil) (PySem.W.BT.node (o281 P) PySem.W.BT.nil PySem.W.BT.nil))) (PySem.W.BT.node (o95 P) (PySem.W.BT.node (o129 P) (PySem.W.BT.node (o197 P) PySem.W.BT.nil PySem.W.BT.nil) (PySem.W.BT.node (o265 P) PySem.W.BT.nil PySem.W.BT.nil)) (PySem.W.BT.node (o161 P) (PySem.W.BT.node (o229 P) PySem.W.BT.nil PySem.W.BT.nil) (PySem.W.BT.node (o297 P) PySem.W.BT.nil PySem.W.BT.nil))))) (PySem.W.BT.node (o43 P) (PySem.W.BT.node (o56 P) (PySem.W.BT.node (o72 P) (PySem.W.BT.node (o107 P) (PySem.W.BT.node (o173 P) (PySem.W.BT.node (o309 P) PySem.W.BT.nil PySem.W.BT.nil) PySem.W.BT.nil) (PySem.W.BT.node (o241 P) PySem.W.BT.nil PySem.W.BT.nil)) (PySem.W.BT.node (o141 P) (PySem.W.BT.node (o209 P) PySem.W.BT.nil PySem.W.BT.nil) (PySem.W.BT.node (o277 P) PySem.W.BT.nil PySem.W.BT.nil))) (PySem.W.BT.node (o91 P) (PySem.W.BT.node (o125 P) (PySem.W.BT.node (o193 P) (PySem.W.BT.node (o327 P) PySem.W.BT.nil PySem.W.BT.nil) PySem.W.BT.nil) (PySem.W.BT.node (o257 P) PySem.W.BT.nil PySem.W.BT.nil)) (PySem.W.BT.node (o157 P) (PySem.W.BT.node (o225 P) PySem.W.BT.nil PySem.W.BT.nil) (PySem.W.BT.node (o293 P) PySem.W.BT.nil PySem.W.BT.nil)))) (PySem.W.BT.node (o64 P) (PySem.W.BT.node (o83 P) (PySem.W.BT.node (o117 P) (PySem.W.BT.node (o181 P) (PySem.W.BT.node (o317 P) PySem.W.BT.nil PySem.W.BT.nil) PySem.W.BT.nil) (PySem.W.BT.node (o249 P) PySem.W.BT.nil PySem.W.BT.nil)) (PySem.W.BT.node (o149 P) (PySem.W.BT.node (o217 P) PySem.W.BT.nil PySem.W.BT.nil) (PySem.W.BT.node (o285 P) PySem.W.BT.nil PySem.W.BT.nil))) (PySem.W.BT.node (o99 P) (PySem.W.BT.node (o133 P) (PySem.W.BT.node (o201 P) PySem.W.BT.nil PySem.W.BT.nil) (PySem.W.BT.node (o269 P) PySem.W.BT.nil PySem.W.BT.nil)) (PySem.W.BT.node (o165 P) (PySem.W.BT.node (o233 P) PySem.W.BT.nil PySem.W.BT.nil) (PySem.W.BT.node (o301 P) PySem.W.BT.nil PySem.W.BT.nil)))))) (PySem.W.BT.node (PySem.W.boot_o_5 P) (PySem.W.BT.node (PySem.W.boot_o_9 P) (PySem.W.BT.node (o54 P) (PySem.W.BT.node (o70 P) (PySem.W.BT.node (o105 P) (PySem.W.BT.node (o171 P) (PySem.W.BT.node (o307 P) PySem.W.BT.nil PySem.W.BT.nil) PySem.W.BT.nil) (PySem.W.BT.node (o239 P) PySem.W.BT.nil PySem.W.BT.nil)) (PySem.W.BT.node (o139 P) (PySem.W.BT.node (o207 P) PySem.W.BT.nil PySem.W.BT.nil) (PySem.W.BT.node (o275 P) PySem.W.BT.nil PySem.W.BT.nil))) (PySem.W.BT.node (o89 P) (PySem.W.BT.node (o123 P) (PySem.W.BT.node (o191 P) (PySem.W.BT.node (o325 P) PySem.W.BT.nil PySem.W.BT.nil) PySem.W.BT.nil) (PySem.W.BT.node (o255 P) PySem.W.BT.nil PySem.W.BT.nil)) (PySem.W.BT.node (o155 P) (PySem.W.BT.node (o223 P) PySem.W.BT.nil PySem.W.BT.nil) (PySem.W.BT.node (o291 P) PySem.W.BT.nil PySem.W.BT.nil)))) (PySem.W.BT.node (o62 P) (PySem.W.BT.node (o78 P) (PySem.W.BT.node (o115 P) (PySem.W.BT.node (o179 P) (PySem.W.BT.node (o315 P) PySem.W.BT.nil PySem.W.BT.nil) PySem.W.BT.nil) (PySem.W.BT.node (o247 P) PySem.W.BT.nil PySem.W.BT.nil)) (PySem.W.BT.node (o147 P) (PySem.W.BT.node (o215 P) PySem.W.BT.nil PySem.W.BT.nil) (PySem.W.BT.node (o283 P) PySem.W.BT.nil PySem.W.BT.nil))) (PySem.W.BT.node (o97 P) (PySem.W.BT.node (o131 P) (PySem.W.BT.node (o199 P) PySem.W.BT.nil PySem.W.BT.nil) (PySem.W.BT.node (o267 P) PySem.W.BT.nil PySem.W.BT.nil)) (PySem.W.BT.node (o163 P) (PySem.W.BT.node (o231 P) PySem.W.BT.nil PySem.W.BT.nil) (PySem.W.BT.node (o299 P) PySem.W.BT.nil PySem.W.BT.nil))))) (PySem.W.BT.node (o45 P) (PySem.W.BT.node (o58 P) (PySem.W.BT.node (o74 P) (PySem.W.BT.node (o111 P) (PySem.W.BT.node (o175 P) (PySem.W.BT.node (o311 P) PySem.W.BT.nil PySem.W.BT.nil) PySem.W.BT.nil) (PySem.W.BT.node (o243 P) PySem.W.BT.nil PySem.W.BT.nil)) (PySem.W.BT.node (o143 P) (PySem.W.BT.node (o211 P) PySem.W.BT.nil PySem.W.BT.nil) (PySem.W.BT.node (o279 P) PySem.W.BT.nil PySem.W.BT.nil))) (PySem.W.BT.node (o93 P) (PySem.W.BT.node (o127 P) (PySem.W.BT.node (o195 P) (PySem.W.BT.node (o329 P) PySem.W.BT.nil PySem.W.BT.nil) PySem.W.BT.nil) (PySem.W.BT.node (o259 P) PySem.W.BT.nil PySem.W.BT.nil)) (PySem.W.BT.node (o159 P) (PySem.W.BT.node (o227 P) PySem.W.BT.nil PySem.W.BT.nil) (PySem.W.BT.node (o295 P) PySem.W.BT.nil PySem.W.BT.nil)))) (PySem.W.BT.node (o66 P) (PySem.W.BT.node (o85 P) (PySem.W.BT.node (o119 P) (PySem.W.BT.node (o183 P) (PySem.W.BT.node (o319 P) PySem.W.BT.nil PySem.W.BT.nil) PySem.W.BT.nil) (PySem.W.BT.node (o251 P) PySem.W.BT.nil PySem.W.BT.nil)) (PySem.W.BT.node (o151 P) (PySem.W.BT.node (o219 P) PySem.W.BT.nil PySem.W.BT.nil) (PySem.W.BT.node (o287 P) PySem.W.BT.nil PySem.W.BT.nil))) (PySem.W.BT.node (o101 P) (PySem.W.BT.node (o135 P) (PySem.W.BT.node (o203 P) PySem.W.BT.nil PySem.W.BT.nil) (PySem.W.BT.node (o271 P) PySem.W.BT.nil PySem.W.BT.nil)) (PySem.W.BT.node (o167 P) (PySem.W.BT.node (o235 P) PySem.W.BT.nil PySem.W.BT.nil) (PySem.W.BT.node (o303 P) PySem.W.BT.nil PySem.W.BT.nil))))))) (PySem.W.BT.node (o49 P) (PySem.W.BT.node (PySem.W.boot_o_4 P) (PySem.W.BT.node (PySem.W.boot_o_8 P) (PySem.W.BT.node (o53 P) (PySem.W.BT.node (o69 P) (PySem.W.BT.node (o104 P) (PySem.W.BT.node (o170 P) (PySem.W.BT.node (o306 P) PySem.W.BT.nil PySem.W.BT.nil) PySem.W.BT.nil) (PySem.W.BT.node (o238 P) PySem.W.BT.nil PySem.W.BT.nil)) (PySem.W.BT.node (o138 P) (PySem.W.BT.node (o206 P) PySem.W.BT.nil PySem.W.BT.nil) (PySem.W.BT.node (o274 P) PySem.W.BT.nil PySem.W.BT.nil))) (PySem.W.BT.node (o88 P) (PySem.W.BT.node (o122 P) (PySem.W.BT.node (o186 P) (PySem.W.BT.node (o324 P) PySem.W.BT.nil PySem.W.BT.nil) PySem.W.BT.nil) (PySem.W.BT.node (o254 P) PySem.W.BT.nil PySem.W.BT.nil)) (PySem.W.BT.node (o154 P) (PySem.W.BT.node (o222 P) PySem.W.BT.nil PySem.W.BT.nil) (PySem.W.BT.node (o290 P) PySem.W.BT.nil PySem.W.BT.nil)))) (PySem.W.BT.node (o61 P) (PySem.W.BT.node (o77 P) (PySem.W.BT.node (o114 P) (PySem.W.BT.node (o178 P) (PySem.W.BT.node (o314 P) PySem.W.BT.nil PySem.W.BT.nil) PySem.W.BT.nil) (PySem.W.BT.node (o246 P) PySem.W.BT.nil PySem.W.BT.nil)) (PySem.W.BT.node (o146 P) (PySem.W.BT.node (o214 P) PySem.W.BT.nil PySem.W.BT.nil) (PySem.W.BT.node (o282 P) PySem.W.BT.nil PySem.W.BT.nil))) (PySem.W.BT.node (o96 P) (PySem.W.BT.node (o130 P) (PySem.W.BT.node (o198 P) PySem.W.BT.nil PySem.W.BT.nil) (PySem.W.BT.node (o266 P) PySem.W.BT.nil PySem.W.BT.nil)) (PySem.W.BT.node (o162 P) (PySem.W.BT.node (o230 P) PySem.W.BT.nil PySem.W.BT.nil) (PySem.W.BT.node (o298 P) PySem.W.BT.nil PySem.W.BT.nil))))) (PySem.W.BT.node (o322 P) (PySem.W.BT.node (o57 P) (PySem.W.BT.node (o73 P) (PySem.W.BT.node (o110 P) (PySem.W.BT.node (o174 P) (PySem.W.BT.node (o310 P) PySem.W.BT.nil PySem.W.BT.nil) PySem.W.BT.nil) (PySem.W.BT.node (o242 P) PySem.W.BT.nil PySem.W.BT.nil)) (PySem.W.BT.node (o142 P) (PySem.W.BT.node (o210 P) PySem.W.BT.nil PySem.W.BT.nil) (PySem.W.BT.node (o278 P) PySem.W.BT.nil PySem.W.BT.nil))) (PySem.W.BT.node (o92 P) (PySem.W.BT.node (o126 P) (PySem.W.BT.node (o194 P) (PySem.W.BT.node (o328 P) PySem.W.BT.nil PySem.W.BT.nil) PySem.W.BT.nil) (PySem.W.BT.node (o258 P) PySem.W.BT.nil PySem.W.BT.nil)) (PySem.W.BT.node (o158 P) (PySem.W.BT.node (o226 P) PySem.W.BT.nil PySem.W.BT.nil) (PySem.W.BT.node (o294 P) PySem.W.BT.nil PySem.W.BT.nil)))) (PySem.W.BT.node (o65 P) (PySem.W.BT.node (o84 P) (PySem.W.BT.node (o118 P) (PySem.W.BT.node (o182 P) (PySem.W.BT.node (o318 P) PySem.W.BT.nil PySem.W.BT.nil) PySem.W.BT.nil) (PySem.W.BT.node (o250 P) PySem.W.BT.nil PySem.W.BT.nil)) (PySem.W.BT.node (o150 P) (PySem.W.BT.node (o218 P) PySem.W.BT.nil PySem.W.BT.nil) (PySem.W.BT.node (o286 P) PySem.W.BT.nil PySem.W.BT.nil))) (PySem.W.BT.node (o100 P) (PySem.W.BT.node (o134 P) (PySem.W.BT.node (o202 P) PySem.W.BT.nil PySem.W.BT.nil) (PySem.W.BT.node (o270 P) PySem.W.BT.nil PySem.W.BT.nil)) (PySem.W.BT.node (o166 P) (PySem.W.BT.node (o234 P) PySem.W.BT.nil PySem.W.BT.nil) (PySem.W.BT.node (o302 P) PySem.W.BT.nil PySem.W.BT.nil)))))) (PySem.W.BT.node (PySem.W.boot_o_6 P) (PySem.W.BT.node (PySem.W.boot_o_10 P) (PySem.W.BT.node (o55 P) (PySem.W.BT.node (o71 P) (PySem.W.BT.node (o106 P) (PySem.W.BT.node (o172 P) (PySem.W.BT.node (o308 P) PySem.W.BT.nil PySem.W.BT.nil) PySem.W.BT.nil) (PySem.W.BT.node (o240 P) PySem.W.BT.nil PySem.W.BT.nil)) (PySem.W.BT.node (o140 P) (PySem.W.BT.node (o208 P) PySem.W.BT.nil PySem.W.BT.nil) (PySem.W.BT.node (o276 P) PySem.W.BT.nil PySem.W.BT.nil))) (PySem.W.BT.node (o90 P) (PySem.W.BT.node (o124 P) (PySem.W.BT.node (o192 P) (PySem.W.BT.node (o326 P) PySem.W.BT.nil PySem.W.BT.nil) PySem.W.BT.nil) (PySem.W.BT.node (o256 P) PySem.W.BT.nil PySem.W.BT.nil)) (PySem.W.BT.node (o156 P) (PySem.W.BT.node (o224 P) PySem.W.BT.nil PySem.W.BT.nil) (PySem.W.BT.node (o292 P) PySem.W.BT.nil PySem.W.BT.nil)))) (PySem.W.BT.node (o63 P) (PySem.W.BT.node (o82 P) (PySem.W.BT.node (o116 P) (PySem.W.BT.node (o180 P) (PySem.W.BT.node (o316 P) PySem.W.BT.nil PySem.W.BT.nil) PySem.W.BT.nil) (PySem.W.BT.node (o248 P) PySem.W.BT.nil PySem.W.BT.nil)) (PySem.W.BT.node (o148 P) (PySem.W.BT.node (o216 P) PySem.W.BT.nil PySem.W.BT.nil) (PySem.W.BT.node (o284 P) PySem.W.BT.nil PySem.W.BT.nil))) (PySem.W.BT.node (o98 P) (PySem.W.BT.node (o132 P) (PySem.W.BT.node (o200 P) PySem.W.BT.nil PySem.W.BT.nil) (PySem.W.BT.node (o268 P) PySem.W.BT.nil PySem.W.BT.nil)) (PySem.W.BT.node (o164 P) (PySem.W.BT.node (o232 P) PySem.W.BT.nil PySem.W.BT.nil) (PySem.W.BT.node (o300 P) PySem.W.BT.nil PySem.W.BT.nil))))) (PySem.W.BT.node (o46 P) (PySem.W.BT.node (o59 P) (PySem.W.BT.node (o81 P) (PySem.W.BT.node (o112 P) (PySem.W.BT.node (o176 P) (PySem.W.BT.node (o312 P) PySem.W.BT.nil PySem.W.BT.nil) PySem.W.BT.nil) (PySem.W.BT.node (o244 P) PySem.W.BT.nil PySem.W.BT.nil)) (PySem.W.BT.node (o144 P) (PySem.W.BT.node (o212 P) PySem.W.BT.nil PySem.W.BT.nil) (PySem.W.BT.node (o280 P) PySem.W.BT.nil PySem.W.BT.nil))) (PySem.W.BT.node (o94 P) (PySem.W.BT.node (o128 P) (PySem.W.BT.node (o196 P) PySem.W.BT.nil PySem.W.BT.nil) (PySem.W.BT.node (o260 P) PySem.W.BT.nil PySem.W.BT.nil)) (PySem.W.BT.node (o160 P) (PySem.W.BT.node (o228 P) PySem.W.BT.nil PySem.W.BT.nil) (PySem.W.BT.node (o296 P) PySem.W.BT.nil PySem.W.BT.nil)))) (PySem.W.BT.node (o67 P) (PySem.W.BT.node (o86 P) (PySem.W.BT.node (o120 P) (PySem.W.BT.node (o184 P) (PySem.W.BT.node (o320 P) PySem.W.BT.nil PySem.W.BT.nil) PySem.W.BT.nil) (PySem.W.BT.node (o252 P) PySem.W.BT.nil PySem.W.BT.nil)) (PySem.W.BT.node (o152 P) (PySem.W.BT.node (o220 P) PySem.W.BT.nil PySem.W.BT.nil) (PySem.W.BT.node (o288 P) PySem.W.BT.nil PySem.W.BT.nil))) (PySem.W.BT.node (o102 P) (PySem.W.BT.node (o136 P) (PySem.W.BT.node (o204 P) PySem.W.BT.nil PySem.W.BT.nil) (PySem.W.BT.node (o272 P) PySem.W.BT.nil PySem.W.BT.nil)) (PySem.W.BT.node (o168 P) (PySem.W.BT.node (o236 P) PySem.W.BT.nil PySem.W.BT.nil) (PySem.W.BT.node (o304 P) PySem.W.BT.nil PySem.W.BT.nil))))))))
noncomputable def tree_416 : Params → BT := fun P => (PySem.W.BT.node (PySem.W.boot_o_0 P) (PySem.W.BT.node (PySem.W.boot_o_1 P) (PySem.W.BT.node (o330 P) (PySem.W.BT.node (PySem.W.boot_o_7 P) (PySem.W.BT.node (o52 P) (PySem.W.BT.node (o68 P) (PySem.W.BT.node (o103 P) (PySem.W.BT.node (o169 P) (PySem.W.BT.node (o305 P) PySem.W.BT.nil PySem.W.BT.nil) PySem.W.BT.nil) (PySem.W.BT.node (o237 P) (PySem.W.BT.node (o373 P) PySem.W.BT.nil PySem.W.BT.nil) PySem.W.BT.nil)) (PySem.W.BT.node (o137 P) (PySem.W.BT.node (o205 P) (PySem.W.BT.node (o341 P) PySem.W.BT.nil PySem.W.BT.nil) PySem.W.BT.nil) (PySem.W.BT.node (o273 P) (PySem.W.BT.node (o405 P) PySem.W.BT.nil PySem.W.BT.nil) PySem.W.BT.nil))) (PySem.W.BT.node (o87 P) (PySem.W.BT.node (o121 P) (PySem.W.BT.node (o185 P) (PySem.W.BT.node (o323 P) PySem.W.BT.nil PySem.W.BT.nil) PySem.W.BT.nil) (PySem.W.BT.node (o253 P) (PySem.W.BT.node (o389 P) PySem.W.BT.nil PySem.W.BT.nil) PySem.W.BT.nil)) (PySem.W.BT.node (o153 P) (PySem.W.BT.node (o221 P) (PySem.W.BT.node (o357 P) PySem.W.BT.nil PySem.W.BT.nil) PySem.W.BT.nil) (PySem.W.BT.node (o289 P) PySem.W.BT.nil PySem.W.BT.nil)))) (PySem.W.BT.node (o60 P) (PySem.W.BT.node (o76 P) (PySem.W.BT.node (o113 P) (PySem.W.BT.node (o177 P) (PySem.W.BT.node (o313 P) PySem.W.BT.nil PySem.W.BT.nil) PySem.W.BT.nil) (PySem.W.BT.node (o245 P) (PySem.W.BT.node (o381 P) PySem.W.BT.nil PySem.W.BT.nil) PySem.W.BT.nil)) (PySem.W.BT.node (o145 P) (PySem.W.BT.node (o213 P) (PySem.W.BT.node (o349 P) PySem.W.BT.nil PySem.W.BT.nil) PySem.W.BT.nil) (PySem.W.BT.node (o281 P) (PySem.W.BT.node (o413 P) PySem.W.BT.nil PySem.W.BT.nil) PySem.W.BT.nil))) (PySem.W.BT.node (o95 P) (PySem.W.BT.node (o129 P) (PySem.W.BT.node (o197 P) (PySem.W.BT.node (o333 P) PySem.W.BT.nil PySem.W.BT.nil) PySem.W.BT.nil) (PySem.W.BT.node (o265 P) (PySem.W.BT.node (o397 P) PySem.W.BT.nil PySem.W.BT.nil) PySem.W.BT.nil)) (PySem.W.BT.node (o161 P) (PySem.W.BT.node (o229 P) (PySem.W.BT.node (o365 P) PySem.W.BT.nil PySem.W.BT.nil) PySem.W.BT.nil) (PySem.W.BT.node (o297 P) PySem.W.BT.nil PySem.W.BT.nil))))) (PySem.W.BT.node (o43 P) (PySem.W.BT.node (o56 P) (PySem.W.BT.node (o72 P) (PySem.W.BT.node (o107 P) (PySem.W.BT.node (o173 P) (PySem.W.BT.node (o309 P) PySem.W.BT.nil PySem.W.BT.nil) PySem.W.BT.nil) (PySem.W.BT.node (o241 P) (PySem.W.BT.node (o377 P) PySem.W.BT.nil PySem.W.BT.nil) PySem.W.BT.nil)) (PySem.W.BT.node (o141 P) (PySem.W.BT.node (o209 P) (PySem.W.BT.node (o345 P) PySem.W.BT.nil PySem.W.BT.nil) PySem.W.BT.nil) (PySem.W.BT.node (o277 P) (PySem.W.BT.node (o409 P) PySem.W.BT.nil PySem.W.BT.nil) PySem.W.BT.nil))) (PySem.W.BT.node (o91 P) (PySem.W.BT.node (o125 P) (PySem.W.BT.node (o193 P) (PySem.W.BT.node (o327 P) PySem.W.BT.nil PySem.W.BT.nil) PySem.W.BT.nil) (PySem.W.BT.node (o257 P) (PySem.W.BT.node (o393 P) PySem.W.BT.nil PySem.W.BT.nil) PySem.W.BT.nil)) (PySem.W.BT.node (o157 P) (PySem.W.BT.node (o225 P) (PySem.W.BT.node (o361 P) PySem.W.BT.nil PySem.W.BT.nil) PySem.W.BT.nil) (PySem.W.BT.node (o293 P) PySem.W.BT.nil PySem.W.BT.nil)))) (PySem.W.BT.node (o64 P) (PySem.W.BT.node (o83 P) (PySem.W.BT.node (o117 P) (PySem.W.BT.node (o181 P) (PySem.W.BT.node (o317 P) PySem.W.BT.nil PySem.W.BT.nil) PySem.W.BT.nil) (PySem.W.BT.node (o249 P) (PySem.W.BT.node (o385 P) PySem.W.BT.nil PySem.W.BT.nil) PySem.W.BT.nil)) (PySem.W.BT.node (o149 P) (PySem.W.BT.node (o217 P) (PySem.W.BT.node (o353 P) PySem.W.BT.nil PySem.W.BT.nil) PySem.W.BT.nil) (PySem.W.BT.node (o285 P) PySem.W.BT.nil PySem.W.BT.nil))) (PySem.W.BT.node (o99 P) (PySem.W.BT.node (o133 P) (PySem.W.BT.node (o201 P) (PySem.W.BT.node (o337 P) PySem.W.BT.nil PySem.W.BT.nil) PySem.W.BT.nil) (PySem.W.BT.node (o269 P) (PySem.W.BT.node (o401 P) PySem.W.BT.nil PySem.W.BT.nil) PySem.W.BT.nil)) (PySem.W.BT.node (o165 P) (PySem.W.BT.node (o233 P) (PySem.W.BT.node (o369 P) PySem.W.BT.nil PySem.W.BT.nil) PySem.W.BT.nil) (PySem.W.BT.node (o301 P) PySem.W.BT.nil PySem.W.BT.nil)))))) (PySem.W.BT.node (PySem.W.boot_o_5 P) (PySem.W.BT.node (PySem.W.boot_o_9 P) (PySem.W.BT.node (o54 P) (PySem.W.BT.node (o70 P) (PySem.W.BT.node (o105 P) (PySem.W.BT.node (o171 P) (PySem.W.BT.node (o307 P) PySem.W.BT.nil PySem.W.BT.nil) PySem.W.BT.nil) (PySem.W.BT.node (o239 P) (PySem.W.BT.node (o375 P) PySem.W.BT.nil PySem.W.BT.nil) PySem.W.BT.nil)) (PySem.W.BT.node (o139 P) (PySem.W.BT.node (o207 P) (PySem.W.BT.node (o343 P) PySem.W.BT.nil PySem.W.BT.nil) PySem.W.BT.nil) (PySem.W.BT.node (o275 P) (PySem.W.BT.node (o407 P) PySem.W.BT.nil PySem.W.BT.nil) PySem.W.BT.nil))) (PySem.W.BT.node (o89 P) (PySem.W.BT.node (o123 P) (PySem.W.BT.node (o191 P) (PySem.W.BT.node (o325 P) PySem.W.BT.nil PySem.W.BT.nil) PySem.W.BT.nil) (PySem.W.BT.node (o255 P) (PySem.W.BT.node (o391 P) PySem.W.BT.nil PySem.W.BT.nil) PySem.W.BT.nil)) (PySem.W.BT.node (o155 P) (PySem.W.BT.node (o223 P) (PySem.W.BT.node (o359 P) PySem.W.BT.nil PySem.W.BT.nil) PySem.W.BT.nil) (PySem.W.BT.node (o291 P) PySem.W.BT.nil PySem.W.BT.nil)))) (PySem.W.BT.node (o62 P) (PySem.W.BT.node (o78 P) (PySem.W.BT.node (o115 P) (PySem.W.BT.node (o179 P) (PySem.W.BT.node (o315 P) PySem.W.BT.nil PySem.W.BT.nil) PySem.W.BT.nil) (PySem.W.BT.node (o247 P) (PySem.W.BT.node (o383 P) PySem.W.BT.nil PySem.W.BT.nil) PySem.W.BT.nil)) (PySem.W.BT.node (o147 P) (PySem.W.BT.node (o215 P) (PySem.W.BT.node (o351 P) PySem.W.BT.nil PySem.W.BT.nil) PySem.W.BT.nil) (PySem.W.BT.node (o283 P) (PySem.W.BT.node (o415 P) PySem.W.BT.nil PySem.W.BT.nil) PySem.W.BT.nil))) (PySem.W.BT.node (o97 P) (PySem.W.BT.node (o131 P) (PySem.W.BT.node (o199 P) (PySem.W.BT.node (o335 P) PySem.W.BT.nil PySem.W.BT.nil) PySem.W.BT.nil) (PySem.W.BT.node (o267 P) (PySem.W.BT.node (o399 P) PySem.W.BT.nil PySem.W.BT.nil) PySem.W.BT.nil)) (PySem.W.BT.node (o163 P) (PySem.W.BT.node (o231 P) (PySem.W.BT.node (o367 P) PySem.W.BT.nil PySem.W.BT.nil) PySem.W.BT.nil) (PySem.W.BT.node (o299 P) PySem.W.BT.nil PySem.W.BT.nil))))) (PySem.W.BT.node (o45 P) (PySem.W.BT.node (o58 P) (PySem.W.BT.node (o74 P) (PySem.W.BT.node (o111 P) (PySem.W.BT.node (o175 P) (PySem.W.BT.node (o311 P) PySem.W.BT.nil PySem.W.BT.nil) PySem.W.BT.nil) (PySem.W.BT.node (o243 P) (PySem.W.BT.node (o379 P) PySem.W.BT.nil PySem.W.BT.nil) PySem.W.BT.nil)) (PySem.W.BT.node (o143 P) (PySem.W.BT.node (o211 P) (PySem.W.BT.node (o347 P) PySem.W.BT.nil PySem.W.BT.nil) PySem.W.BT.nil) (PySem.W.BT.node (o279 P) (PySem.W.BT.node (o411 P) PySem.W.BT.nil PySem.W.BT.nil) PySem.W.BT.nil))) (PySem.W.BT.node (o93 P) (PySem.W.BT.node (o127 P) (PySem.W.BT.node (o195 P) (PySem.W.BT.node (o329 P) PySem.W.BT.nil PySem.W.BT.nil) PySem.W.BT.nil) (PySem.W.BT.node (o259 P) (PySem.W.BT.node (o395 P) PySem.W.BT.nil PySem.W.BT.nil) PySem.W.BT.nil)) (PySem.W.BT.node (o159 P) (PySem.W.BT.node (o227 P) (PySem.W.BT.node (o363 P) PySem.W.BT.nil PySem.W.BT.nil) PySem.W.BT.nil) (PySem.W.BT.node (o295 P) PySem.W.BT.nil PySem.W.BT.nil)))) (PySem.W.BT.node (o66 P) (PySem.W.BT.node (o85 P) (PySem.W.BT.node (o119 P) (PySem.W.BT.node (o183 P) (PySem.W.BT.node (o319 P) PySem.W.BT.nil PySem.W.BT.nil) PySem.W.BT.nil) (PySem.W.BT.node (o251 P) (PySem.W.BT.node (o387 P) PySem.W.BT.nil PySem.W.BT.nil) PySem.W.BT.nil)) (PySem.W.BT.node (o151 P) (PySem.W.BT.node (o219 P) (PySem.W.BT.node (o355 P) PySem.W.BT.nil PySem.W.BT.nil) PySem.W.BT.nil) (PySem.W.BT.node (o287 P) PySem.W.BT.nil PySem.W.BT.nil))) (PySem.W.BT.node (o101 P) (PySem.W.BT.node (o135 P) (PySem.W.BT.node (o203 P) (PySem.W.BT.node (o339 P) PySem.W.BT.nil PySem.W.BT.nil) PySem.W.BT.nil) (PySem.W.BT.node (o271 P) (PySem.W.BT.node (o403 P) PySem.W.BT.nil PySem.W.BT.nil) PySem.W.BT.nil)) (PySem.W.BT.node (o167 P) (PySem.W.BT.node (o235 P) (PySem.W.BT.node (o371 P) PySem.W.BT.nil PySem.W.BT.nil) PySem.W.BT.nil) (PySem.W.BT.node (o303 P) PySem.W.BT.nil PySem.W.BT.nil))))))) (PySem.W.BT.node (o49 P) (PySem.W.BT.node (PySem.W.boot_o_4 P) (PySem.W.BT.node (PySem.W.boot_o_8 P) (PySem.W.BT.node (o53 P) (PySem.W.BT.node (o69 P) (PySem.W.BT.node (o104 P) (PySem.W.BT.node (o170 P) (PySem.W.BT.node (o306 P) PySem.W.BT.nil PySem.W.BT.nil) PySem.W.BT.nil) (PySem.W.BT.node (o238 P) (PySem.W.BT.node (o374 P) PySem.W.BT.nil PySem.W.BT.nil) PySem.W.BT.nil)) (PySem.W.BT.node (o138 P) (PySem.W.BT.node (o206 P) (PySem.W.BT.node (o342 P) PySem.W.BT.nil PySem.W.BT.nil) PySem.W.BT.nil) (PySem.W.BT.node (o274 P) (PySem.W.BT.node (o406 P) PySem.W.BT.nil PySem.W.BT.nil) PySem.W.BT.nil))) (PySem.W.BT.node (o88 P) (PySem.W.BT.node (o122 P) (PySem.W.BT.node (o186 P) (PySem.W.BT.node (o324 P) PySem.W.BT.nil PySem.W.BT.nil) PySem.W.BT.nil) (PySem.W.BT.node (o254 P) (PySem.W.BT.node (o390 P) PySem.W.BT.nil PySem.W.BT.nil) PySem.W.BT.nil)) (PySem.W.BT.node (o154 P) (PySem.W.BT.node (o222 P) (PySem.W.BT.node (o358 P) PySem.W.BT.nil PySem.W.BT.nil) PySem.W.BT.nil) (PySem.W.BT.node (o290 P) PySem.W.BT.nil PySem.W.BT.nil)))) (PySem.W.BT.node (o61 P) (PySem.W.BT.node (o77 P) (PySem.W.BT.node (o114 P) (PySem.W.BT.node (o178 P) (PySem.W.BT.node (o314 P) PySem.W.BT.nil PySem.W.BT.nil) PySem.W.BT.nil) (PySem.W.BT.node (o246 P) (PySem.W.BT.node (o382 P) PySem.W.BT.nil PySem.W.BT.nil) PySem.W.BT.nil)) (PySem.W.BT.node (o146 P) (PySem.W.BT.node (o214 P) (PySem.W.BT.node (o350 P) PySem.W.BT.nil PySem.W.BT.nil) PySem.W.BT.nil) (PySem.W.BT.node (o282 P) (PySem.W.BT.node (o414 P) PySem.W.BT.nil PySem.W.BT.nil) PySem.W.BT.nil))) (PySem.W.BT.node (o96 P) (PySem.W.BT.node (o130 P) (PySem.W.BT.node (o198 P) (PySem.W.BT.node (o334 P) PySem.W.BT.nil PySem.W.BT.nil) PySem.W.BT.nil) (PySem.W.BT.node (o266 P) (PySem.W.BT.node (o398 P) PySem.W.BT.nil PySem.W.BT.nil) PySem.W.BT.nil)) (PySem.W.BT.node (o162 P) (PySem.W.BT.node (o230 P) (PySem.W.BT.node (o366 P) PySem.W.BT.nil PySem.W.BT.nil) PySem.W.BT.nil) (PySem.W.BT.node (o298 P) PySem.W.BT.nil PySem.W.BT.nil))))) (PySem.W.BT.node (o331 P) (PySem.W.BT.node (o57 P) (PySem.W.BT.node (o73 P) (PySem.W.BT.node (o110 P) (PySem.W.BT.node (o174 P) (PySem.W.BT.node (o310 P) PySem.W.BT.nil PySem.W.BT.nil) PySem.W.BT.nil) (PySem.W.BT.node (o242 P) (PySem.W.BT.node (o378 P) PySem.W.BT.nil PySem.W.BT.nil) PySem.W.BT.nil)) (PySem.W.BT.node (o142 P) (PySem.W.BT.node (o210 P) (PySem.W.BT.node (o346 P) PySem.W.BT.nil PySem.W.BT.nil) PySem.W.BT.nil) (PySem.W.BT.node (o278 P) (PySem.W.BT.node (o410 P) PySem.W.BT.nil PySem.W.BT.nil) PySem.W.BT.nil))) (PySem.W.BT.node (o92 P) (PySem.W.BT.node (o126 P) (PySem.W.BT.node (o194 P) (PySem.W.BT.node (o328 P) PySem.W.BT.nil PySem.W.BT.nil) PySem.W.BT.nil) (PySem.W.BT.node (o258 P) (PySem.W.BT.node (o394 P) PySem.W.BT.nil PySem.W.BT.nil) PySem.W.BT.nil)) (PySem.W.BT.node (o158 P) (PySem.W.BT.node (o226 P) (PySem.W.BT.node (o362 P) PySem.W.BT.nil PySem.W.BT.nil) PySem.W.BT.nil) (PySem.W.BT.node (o294 P) PySem.W.BT.nil PySem.W.BT.nil)))) (PySem.W.BT.node (o65 P) (PySem.W.BT.node (o84 P) (PySem.W.BT.node (o118 P) (PySem.W.BT.node (o182 P) (PySem.W.BT.node (o318 P) PySem.W.BT.nil PySem.W.BT.nil) PySem.W.BT.nil) (PySem.W.BT.node (o250 P) (PySem.W.BT.node (o386 P) PySem.W.BT.nil PySem.W.BT.nil) PySem.W.BT.nil)) (PySem.W.BT.node (o150 P) (PySem.W.BT.node (o218 P) (PySem.W.BT.node (o354 P) PySem.W.BT.nil PySem.W.BT.nil) PySem.W.BT.nil) (PySem.W.BT.node (o286 P) PySem.W.BT.nil PySem.W.BT.nil))) (PySem.W.BT.node (o100 P) (PySem.W.BT.node (o134 P) (PySem.W.BT.node (o202 P) (PySem.W.BT.node (o338 P) PySem.W.BT.nil PySem.W.BT.nil) PySem.W.BT.nil) (PySem.W.BT.node (o270 P) (PySem.W.BT.node (o402 P) PySem.W.BT.nil PySem.W.BT.nil) PySem.W.BT.nil)) (PySem.W.BT.node (o166 P) (PySem.W.BT.node (o234 P) (PySem.W.BT.node (o370 P) PySem.W.BT.nil PySem.W.BT.nil) PySem.W.BT.nil) (PySem.W.BT.node (o302 P) PySem.W.BT.nil PySem.W.BT.nil)))))) (PySem.W.BT.node (PySem.W.boot_o_6 P) (PySem.W.BT.node (PySem.W.boot_o_10 P) (PySem.W.BT.node (o55 P) (PySem.W.BT.node (o71 P) (PySem.W.BT.node (o106 P) (PySem.W.BT.node (o172 P) (PySem.W.BT.node (o308 P) PySem.W.BT.nil PySem.W.BT.nil) PySem.W.BT.nil) (PySem.W.BT.node (o240 P) (PySem.W.BT.node (o376 P) PySem.W.BT.nil PySem.W.BT.nil) PySem.W.BT.nil)) (PySem.W.BT.node (o140 P) (PySem.W.BT.node (o208 P) (PySem.W.BT.node (o344 P) PySem.W.BT.nil PySem.W.BT.nil) PySem.W.BT.nil) (PySem.W.BT.node (o276 P) (PySem.W.BT.node (o408 P) PySem.W.BT.nil PySem.W.BT.nil) PySem.W.BT.nil))) (PySem.W.BT.node (o90 P) (PySem.W.BT.node (o124 P) (PySem.W.BT.node (o192 P) (PySem.W.BT.node (o326 P) PySem.W.BT.nil PySem.W.BT.nil) PySem.W.BT.nil) (PySem.W.BT.node (o256 P) (PySem.W.BT.node (o392 P) PySem.W.BT.nil PySem.W.BT.nil) PySem.W.BT.nil)) (PySem.W.BT.node (o156 P) (PySem.W.BT.node (o224 P) (PySem.W.BT.node (o360 P) PySem.W.BT.nil PySem.W.BT.nil) PySem.W.BT.nil) (PySem.W.BT.node (o292 P) PySem.W.BT.nil PySem.W.BT.nil)))) (PySem.W.BT.node (o63 P) (PySem.W.BT.node (o82 P) (PySem.W.BT.node (o116 P) (PySem.W.BT.node (o180 P) (PySem.W.BT.node (o316 P) PySem.W.BT.nil PySem.W.BT.nil) PySem.W.BT.nil) (PySem.W.BT.node (o248 P) (PySem.W.BT.node (o384 P) PySem.W.BT.nil PySem.W.BT.nil) PySem.W.BT.nil)) (PySem.W.BT.node (o148 P) (PySem.W.BT.node (o216 P) (PySem.W.BT.node (o352 P) PySem.W.BT.nil PySem.W.BT.nil) PySem.W.BT.nil) (PySem.W.BT.node (o284 P) (PySem.W.BT.node (o416 P) PySem.W.BT.nil PySem.W.BT.nil) PySem.W.BT.nil))) (PySem.W.BT.node (o98 P) (PySem.W.BT.node (o132 P) (PySem.W.BT.node (o200 P) (PySem.W.BT.node (o336 P) PySem.W.BT.nil PySem.W.BT.nil) PySem.W.BT.nil) (PySem.W.BT.node (o268 P) (PySem.W.BT.node (o400 P) PySem.W.BT.nil PySem.W.BT.nil) PySem.W.BT.nil)) (PySem.W.BT.node (o164 P) (PySem.W.BT.node (o232 P) (PySem.W.BT.node (o368 P) PySem.W.BT.nil PySem.W.BT.nil) PySem.W.BT.nil) (PySem.W.BT.node (o300 P) PySem.W.BT.nil PySem.W.BT.nil))))) (PySem.W.BT.node (o46 P) (PySem.W.BT.node (o59 P) (PySem.W.BT.node (o81 P) (PySem.W.BT.node (o112 P) (PySem.W.BT.node (o176 P) (PySem.W.BT.node (o312 P) PySem.W.BT.nil PySem.W.BT.nil) PySem.W.BT.nil) (PySem.W.BT.node (o244 P) (PySem.W.BT.node (o380 P) PySem.W.BT.nil PySem.W.BT.nil) PySem.W.BT.nil)) (PySem.W.BT.node (o144 P) (PySem.W.BT.node (o212 P) (PySem.W.BT.node (o348 P) PySem.W.BT.nil PySem.W.BT.nil) PySem.W.BT.nil) (PySem.W.BT.node (o280 P) (PySem.W.BT.node (o412 P) PySem.W.BT.nil PySem.W.BT.nil) PySem.W.BT.nil))) (PySem.W.BT.node (o94 P) (PySem.W.BT.node (o128 P) (PySem.W.BT.node (o196 P) (PySem.W.BT.node (o332 P) PySem.W.BT.nil PySem.W.BT.nil) PySem.W.BT.nil) (PySem.W.BT.node (o260 P) (PySem.W.BT.node (o396 P) PySem.W.BT.nil PySem.W.BT.nil) PySem.W.BT.nil)) (PySem.W.BT.node (o160 P) (PySem.W.BT.node (o228 P) (PySem.W.BT.node (o364 P) PySem.W.BT.nil PySem.W.BT.nil) PySem.W.BT.nil) (PySem.W.BT.node (o296 P) PySem.W.BT.nil PySem.W.BT.nil)))) (PySem.W.BT.node (o67 P) (PySem.W.BT.node (o86 P) (PySem.W.BT.node (o120 P) (PySem.W.BT.node (o184 P) (PySem.W.BT.node (o320 P) PySem.W.BT.nil PySem.W.BT.nil) PySem.W.BT.nil) (PySem.W.BT.node (o252 P) (PySem.W.BT.node (o388 P) PySem.W.BT.nil PySem.W.BT.nil) PySem.W.BT.nil)) (PySem.W.BT.node (o152 P) (PySem.W.BT.node (o220 P) (PySem.W.BT.node (o356 P) PySem.W.BT.nil PySem.W.BT.nil) PySem.W.BT.nil) (PySem.W.BT.node (o288 P) PySem.W.BT.nil PySem.W.BT.nil))) (PySem.W.BT.node (o102 P) (PySem.W.BT.node (o136 P) (PySem.W.BT.node (o204 P) (PySem.W.BT.node (o340 P) PySem.W.BT.nil PySem.W.BT.nil) PySem.W.BT.nil) (PySem.W.BT.node (o272 P) (PySem.W.BT.node (o404 P) PySem.W.BT.nil PySem.W.BT.nil) PySem.W.BT.nil)) (PySem.W.BT.node (o168 P) (PySem.W.BT.node (o236 P) (PySem.W.BT.node (o372 P) PySem.W.BT.nil PySem.W.BT.nil) PySem.W.BT.nil) (PySem.W.BT.node (o304 P) PySem.W.BT.nil PySem.W.BT.nil))))))))
noncomputable def tree_453 : Params → BT := fun P => (PySem.W.BT.node (PySem.W.boot_o_0 P) (PySem.W.BT.node (PySem.W.boot_o_1 P) (PySem.W.BT.node (o417 P) (PySem.W.BT.node (PySem.W.boot_o_7 P) (PySem.W.BT.node (o52 P) (PySem.W.BT.node (o68 P) (PySem.W.BT.node (o103 P) (PySem.W.BT.node (o169 P) (PySem.W.BT.node (o305 P) PySem.W.BT.nil PySem.W.BT.nil) (PySem.W.BT.node (o439 P) PySem.W.BT.nil PySem.W.BT.nil)) (PySem.W.BT.node (o237 P) (PySem.W.BT.node (o373 P) PySem.W.BT.nil PySem.W.BT.nil) PySem.W.BT.nil)) (PySem.W.BT.node (o137 P) (PySem.W.BT.node (o205 P) (PySem.W.BT.node (o341 P) PySem.W.BT.nil PySem.W.BT.nil) PySem.W.BT.nil) (PySem.W.BT.node (o273 P) (PySem.W.BT.node (o405 P) PySem.W.BT.nil PySem.W.BT.nil) PySem.W.BT.nil))) (PySem.W.BT.node (o87 P) (PySem.W.BT.node (o121 P) (PySem.W.BT.node (o185 P) (PySem.W.BT.node (o323 P) PySem.W.BT.nil PySem.W.BT.nil) PySem.W.BT.nil) (PySem.W.BT.node (o253 P) (PySem.W.BT.node (o389 P) PySem.W.BT.nil PySem.W.BT.nil) PySem.W.BT.nil)) (PySem.W.BT.node (o153 P) (PySem.W.BT.node (o221 P) (PySem.W.BT.node (o357 P) PySem.W.BT.nil PySem.W.BT.nil) PySem.W.BT.nil) (PySem.W.BT.node (o289 P) (PySem.W.BT.node (o423 P) PySem.W.BT.nil PySem.W.BT.nil) PySem.W.BT.nil)))) (PySem.W.BT.node (o60 P) (PySem.W.BT.node (o76 P) (PySem.W.BT.node (o113 P) (PySem.W.BT.node (o177 P) (PySem.W.BT.node (o313 P) PySem.W.BT.nil PySem.W.BT.nil) (PySem.W.BT.node (o447 P) PySem.W.BT.nil PySem.W.BT.nil)) (PySem.W.BT.node (o245 P) (PySem.W.BT.node (o381 P) PySem.W.BT.nil PySem.W.BT.nil) PySem.W.BT.nil)) (PySem.W.BT.node (o145 P) (PySem.W.BT.node (o213 P) (PySem.W.BT.node (o349 P) PySem.W.BT.nil PySem.W.BT.nil) PySem.W.BT.nil) (PySem.W.BT.node (o281 P) (PySem.W.BT.node (o413 P) PySem.W.BT.nil PySem.W.BT.nil) PySem.W.BT.nil))) (PySem.W.BT.node (o95 P) (PySem.W.BT.node (o129 P) (PySem.W.BT.node (o197 P) (PySem.W.BT.node (o333 P) PySem.W.BT.nil PySem.W.BT.nil) PySem.W.BT.nil) (PySem.W.BT.node (o265 P) (PySem.W.BT.node (o397 P) PySem.W.BT.nil PySem.W.BT.nil) PySem.W.BT.nil)) (PySem.W.BT.node (o161 P) (PySem.W.BT.node (o229 P) (PySem.W.BT.node (o365 P) PySem.W.BT.nil PySem.W.BT.nil) PySem.W.BT.nil) (PySem.W.BT.node (o297 P) (PySem.W.BT.node (o431 P) PySem.W.BT.nil PySem.W.BT.nil) PySem.W.BT.nil))))) (PySem.W.BT.node (o43 P) (PySem.W.BT.node (o56 P) (PySem.W.BT.node (o72 P) (PySem.W.BT.node (o107 P) (PySem.W.BT.node (o173 P) (PySem.W.BT.node (o309 P) PySem.W.BT.nil PySem.W.BT.nil) (PySem.W.BT.node (o443 P) PySem.W.BT.nil PySem.W.BT.nil)) (PySem.W.BT.node (o241 P) (PySem.W.BT.node (o377 P) PySem.W.BT.nil PySem.W.BT.nil) PySem.W.BT.nil)) (PySem.W.BT.node (o141 P) (PySem.W.BT.node (o209 P) (PySem.W.BT.node (o345 P) PySem.W.BT.nil PySem.W.BT.nil) PySem.W.BT.nil) (PySem.W.BT.node (o277 P) (PySem.W.BT.node (o409 P) PySem.W.BT.nil PySem.W.BT.nil) PySem.W.BT.nil))) (PySem.W.BT.node (o91 P) (PySem.W.BT.node (o125 P) (PySem.W.BT.node (o193 P) (PySem.W.BT.node (o327 P) PySem.W.BT.nil PySem.W.BT.nil) PySem.W.BT.nil) (PySem.W.BT.node (o257 P) (PySem.W.BT.node (o393 P) PySem.W.BT.nil PySem.W.BT.nil) PySem.W.BT.nil)) (PySem.W.BT.node (o157 P) (PySem.W.BT.node (o225 P) (PySem.W.BT.node (o361 P) PySem.W.BT.nil PySem.W.BT.nil) PySem.W.BT.nil) (PySem.W.BT.node (o293 P) (PySem.W.BT.node (o427 P) PySem.W.BT.nil PySem.W.BT.nil) PySem.W.BT.nil)))) (PySem.W.BT.node (o64 P) (PySem.W.BT.node (o83 P) (PySem.W.BT.node (o117 P) (PySem.W.BT.node (o181 P) (PySem.W.BT.node (o317 P) PySem.W.BT.nil PySem.W.BT.nil) (PySem.W.BT.node (o451 P) PySem.W.BT.nil PySem.W.BT.nil)) (PySem.W.BT.node (o249 P) (PySem.W.BT.node (o385 P) PySem.W.BT.nil PySem.W.BT.nil) PySem.W.BT.nil)) (PySem.W.BT.node (o149 P) (PySem.W.BT.node (o217 P) (PySem.W.BT.node (o353 P) PySem.W.BT.nil PySem.W.BT.nil) PySem.W.BT.nil) (PySem.W.BT.node (o285 P) (PySem.W.BT.node (o419 P) PySem.W.BT.nil PySem.W.BT.nil) PySem.W.BT.nil))) (PySem.W.BT.node (o99 P) (PySem.W.BT.node (o133 P) (PySem.W.BT.node (o201 P) (PySem.W.BT.node (o337 P) PySem.W.BT.nil PySem.W.BT.nil) PySem.W.BT.nil) (PySem.W.BT.node (o269 P) (PySem.W.BT.node (o401 P) PySem.W.BT.nil PySem.W.BT.nil) PySem.W.BT.nil)) (PySem.W.BT.node (o165 P) (PySem.W.BT.node (o233 P) (PySem.W.BT.node (o369 P) PySem.W.BT.nil PySem.W.BT.nil) PySem.W.BT.nil) (PySem.W.BT.node (o301 P) (PySem.W.BT.node (o435 P) PySem.W.BT.nil PySem.W.BT.nil) PySem.W.BT.nil)))))) (PySem.W.BT.node (PySem.W.boot_o_5 P) (PySem.W.BT.node (PySem.W.boot_o_9 P) (PySem.W.BT.node (o54 P) (PySem.W.BT.node (o70 P) (PySem.W.BT.node (o105 P) (PySem.W.BT.node (o171 P) (PySem.W.BT.node (o307 P) PySem.W.BT.nil PySem.W.BT.nil) (PySem.W.BT.node (o441 P) PySem.W.BT.nil PySem.W.BT.nil)) (PySem.W.BT.node (o239 P) (PySem.W.BT.node (o375 P) PySem.W.BT.nil PySem.W.BT.nil) PySem.W.BT.nil)) (PySem.W.BT.node (o139 P) (PySem.W.BT.node (o207 P) (PySem.W.BT.node (o343 P) PySem.W.BT.nil PySem.W.BT.nil) PySem.W.BT.nil) (PySem.W.BT.node (o275 P) (PySem.W.BT.node (o407 P) PySem.W.BT.nil PySem.W.BT.nil) PySem.W.BT.nil))) (PySem.W.BT.node (o89 P) (PySem.W.BT.node (o123 P) (PySem.W.BT.node (o191 P) (PySem.W.BT.node (o325 P) PySem.W.BT.nil PySem.W.BT.nil) PySem.W.BT.nil) (PySem.W.BT.node (o255 P) (PySem.W.BT.node (o391 P) PySem.W.BT.nil PySem.W.BT.nil) PySem.W.BT.nil)) (PySem.W.BT.node (o155 P) (PySem.W.BT.node (o223 P) (PySem.W.BT.node (o359 P) PySem.W.BT.nil PySem.W.BT.nil) PySem.W.BT.nil) (PySem.W.BT.node (o291 P) (PySem.W.BT.node (o425 P) PySem.W.BT.nil PySem.W.BT.nil) PySem.W.BT.nil)))) (PySem.W.BT.node (o62 P) (PySem.W.BT.node (o78 P) (PySem.W.BT.node (o115 P) (PySem.W.BT.node (o179 P) (PySem.W.BT.node (o315 P) PySem.W.BT.nil PySem.W.BT.nil) (PySem.W.BT.node (o449 P) PySem.W.BT.nil PySem.W.BT.nil)) (PySem.W.BT.node (o247 P) (PySem.W.BT.node (o383 P) PySem.W.BT.nil PySem.W.BT.nil) PySem.W.BT.nil)) (PySem.W.BT.node (o147 P) (PySem.W.BT.node (o215 P) (PySem.W.BT.node (o351 P) PySem.W.BT.nil PySem.W.BT.nil) PySem.W.BT.nil) (PySem.W.BT.node (o283 P) (PySem.W.BT.node (o415 P) PySem.W.BT.nil PySem.W.BT.nil) PySem.W.BT.nil))) (PySem.W.BT.node (o97 P) (PySem.W.BT.node (o131 P) (PySem.W.BT.node (o199 P) (PySem.W.BT.node (o335 P) PySem.W.BT.nil PySem.W.BT.nil) PySem.W.BT.nil) (PySem.W.BT.node (o267 P) (PySem.W.BT.node (o399 P) PySem.W.BT.nil PySem.W.BT.nil) PySem.W.BT.nil)) (PySem.W.BT.node (o163 P) (PySem.W.BT.node (o231 P) (PySem.W.BT.node (o367 P) PySem.W.BT.nil PySem.W.BT.nil) PySem.W.BT.nil) (PySem.W.BT.node (o299 P) (PySem.W.BT.node (o433 P) PySem.W.BT.nil PySem.W.BT.nil) PySem.W.BT.nil))))) (PySem.W.BT.node (o45 P) (PySem.W.BT.node (o58 P) (PySem.W.BT.node (o74 P) (PySem.W.BT.node (o111 P) (PySem.W.BT.node (o175 P) (PySem.W.BT.node (o311 P) PySem.W.BT.nil PySem.W.BT.nil) (PySem.W.BT.node (o445 P) PySem.W.BT.nil PySem.W.BT.nil)) (PySem.W.BT.node (o243 P) (PySem.W.BT.node (o379 P) PySem.W.BT.nil PySem.W.BT.nil) PySem.W.BT.nil)) (PySem.W.BT.node (o143 P) (PySem.W.BT.node (o211 P) (PySem.W.BT.node (o347 P) PySem.W.BT.nil PySem.W.BT.nil) PySem.W.BT.nil) (PySem.W.BT.node (o279 P) (PySem.W.BT.node (o411 P) PySem.W.BT.nil PySem.W.BT.nil) PySem.W.BT.nil))) (PySem.W.BT.node (o93 P) (PySem.W.BT.node (o127 P) (PySem.W.BT.node (o195 P) (PySem.W.BT.node (o329 P) PySem.W.BT.nil PySem.W.BT.nil) PySem.W.BT.nil) (PySem.W.BT.node (o259 P) (PySem.W.BT.node (o395 P) PySem.W.BT.nil PySem.W.BT.nil) PySem.W.BT.nil)) (PySem.W.BT.node (o159 P) (PySem.W.BT.node (o227 P) (PySem.W.BT.node (o363 P) PySem.W.BT.nil PySem.W.BT.nil) PySem.W.BT.nil) (PySem.W.BT.node (o295 P) (PySem.W.BT.node (o429 P) PySem.W.BT.nil PySem.W.BT.nil) PySem.W.BT.nil)))) (PySem.W.BT.node (o66 P) (PySem.W.BT.node (o85 P) (PySem.W.BT.node (o119 P) (PySem.W.BT.node (o183 P) (PySem.W.BT.node (o319 P) PySem.W.BT.nil PySem.W.BT.nil) (PySem.W.BT.node (o453 P) PySem.W.BT.nil PySem.W.BT.nil)) (PySem.W.BT.node (o251 P) (PySem.W.BT.node (o387 P) PySem.W.BT.nil PySem.W.BT.nil) PySem.W.BT.nil)) (PySem.W.BT.node (o151 P) (PySem.W.BT.node (o219 P) (PySem.W.BT.node (o355 P) PySem.W.BT.nil PySem.W.BT.nil) PySem.W.BT.nil) (PySem.W.BT.node (o287 P) (PySem.W.BT.node (o421 P) PySem.W.BT.nil PySem.W.BT.nil) PySem.W.BT.nil))) (PySem.W.BT.node (o101 P) (PySem.W.BT.node (o135 P) (PySem.W.BT.node (o203 P) (PySem.W.BT.node (o339 P) PySem.W.BT.nil PySem.W.BT.nil) PySem.W.BT.nil) (PySem.W.BT.node (o271 P) (PySem.W.BT.node (o403 P) PySem.W.BT.nil PySem.W.BT.nil) PySem.W.BT.nil)) (PySem.W.BT.node (o167 P) (PySem.W.BT.node (o235 P) (PySem.W.BT.node (o371 P) PySem.W.BT.nil PySem.W.BT.nil) PySem.W.BT.nil) (PySem.W.BT.node (o303 P) (PySem.W.BT.node (o437 P) PySem.W.BT.nil PySem.W.BT.nil) PySem.W.BT.nil))))))) (PySem.W.BT.node (o49 P) (PySem.W.BT.node (PySem.W.boot_o_4 P) (PySem.W.BT.node (PySem.W.boot_o_8 P) (PySem.W.BT.node (o53 P) (PySem.W.BT.node (o69 P) (PySem.W.BT.node (o104 P) (PySem.W.BT.node (o170 P) (PySem.W.BT.node (o306 P) PySem.W.BT.nil PySem.W.BT.nil) (PySem.W.BT.node (o440 P) PySem.W.BT.nil PySem.W.BT.nil)) (PySem.W.BT.node (o238 P) (PySem.W.BT.node (o374 P) PySem.W.BT.nil PySem.W.BT.nil) PySem.W.BT.nil)) (PySem.W.BT.node (o138 P) (PySem.W.BT.node (o206 P) (PySem.W.BT.node (o342 P) PySem.W.BT.nil PySem.W.BT.nil) PySem.W.BT.nil) (PySem.W.BT.node (o274 P) (PySem.W.BT.node (o406 P) PySem.W.BT.nil PySem.W.BT.nil) PySem.W.BT.nil))) (PySem.W.BT.node (o88 P) (PySem.W.BT.node (o122 P) (PySem.W.BT.node (o186 P) (PySem.W.BT.node (o324 P) PySem.W.BT.nil PySem.W.BT.nil) PySem.W.BT.nil) (PySem.W.BT.node (o254 P) (PySem.W.BT.node (o390 P) PySem.W.BT.nil PySem.W.BT.nil) PySem.W.BT.nil)) (PySem.W.BT.node (o154 P) (PySem.W.BT.node (o222 P) (PySem.W.BT.node (o358 P) PySem.W.BT.nil PySem.W.BT.nil) PySem.W.BT.nil) (PySem.W.BT.node (o290 P) (PySem.W.BT.node (o424 P) PySem.W.BT.nil PySem.W.BT.nil) PySem.W.BT.nil)))) (PySem.W.BT.node (o61 P) (PySem.W.BT.node (o77 P) (PySem.W.BT.node (o114 P) (PySem.W.BT.node (o178 P) (PySem.W.BT.node (o314 P) PySem.W.BT.nil PySem.W.BT.nil) (PySem.W.BT.node (o448 P) PySem.W.BT.nil PySem.W.BT.nil)) (PySem.W.BT.node (o246 P) (PySem.W.BT.node (o382 P) PySem.W.BT.nil PySem.W.BT.nil) PySem.W.BT.nil)) (PySem.W.BT.node (o146 P) (PySem.W.BT.node (o214 P) (PySem.W.BT.node (o350 P) PySem.W.BT.nil PySem.W.BT.nil) PySem.W.BT.nil) (PySem.W.BT.node (o282 P) (PySem.W.BT.node (o414 P) PySem.W.BT.nil PySem.W.BT.nil) PySem.W.BT.nil))) (PySem.W.BT.node (o96 P) (PySem.W.BT.node (o130 P) (PySem.W.BT.node (o198 P) (PySem.W.BT.node (o334 P) PySem.W.BT.nil PySem.W.BT.nil) PySem.W.BT.nil) (PySem.W.BT.node (o266 P) (PySem.W.BT.node (o398 P) PySem.W.BT.nil PySem.W.BT.nil) PySem.W.BT.nil)) (PySem.W.BT.node (o162 P) (PySem.W.BT.node (o230 P) (PySem.W.BT.node (o366 P) PySem.W.BT.nil PySem.W.BT.nil) PySem.W.BT.nil) (PySem.W.BT.node (o298 P) (PySem.W.BT.node (o432 P) PySem.W.BT.nil PySem.W.BT.nil) PySem.W.BT.nil))))) (PySem.W.BT.node (o418 P) (PySem.W.BT.node (o57 P) (PySem.W.BT.node (o73 P) (PySem.W.BT.node (o110 P) (PySem.W.BT.node (o174 P) (PySem.W.BT.node (o310 P) PySem.W.BT.nil PySem.W.BT.nil) (PySem.W.BT.node (o444 P) PySem.W.BT.nil PySem.W.BT.nil)) (PySem.W.BT.node (o242 P) (PySem.W.BT.node (o378 P) PySem.W.BT.nil PySem.W.BT.nil) PySem.W.BT.nil)) (PySem.W.BT.node (o142 P) (PySem.W.BT.node (o210 P) (PySem.W.BT.node (o346 P) PySem.W.BT.nil PySem.W.BT.nil) PySem.W.BT.nil) (PySem.W.BT.node (o278 P) (PySem.W.BT.node (o410 P) PySem.W.BT.nil PySem.W.BT.nil) PySem.W.BT.nil))) (PySem.W.BT.node (o92 P) (PySem.W.BT.node (o126 P) (PySem.W.BT.node (o194 P) (PySem.W.BT.node (o328 P) PySem.W.BT.nil PySem.W.BT.nil) PySem.W.BT.nil) (PySem.W.BT.node (o258 P) (PySem.W.BT.node (o394 P) PySem.W.BT.nil PySem.W.BT.nil) PySem.W.BT.nil)) (PySem.W.BT.node (o158 P) (PySem.W.BT.node (o226 P) (PySem.W.BT.node (o362 P) PySem.W.BT.nil PySem.W.BT.nil) PySem.W.BT.nil) (PySem.W.BT.node (o294 P) (PySem.W.BT.node (o428 P) PySem.W.BT.nil PySem.W.BT.nil) PySem.W.BT.nil)))) (PySem.W.BT.node (o65 P) (PySem.W.BT.node (o84 P) (PySem.W.BT.node (o118 P) (PySem.W.BT.node (o182 P) (PySem.W.BT.node (o318 P) PySem.W.BT.nil PySem.W.BT.nil) (PySem.W.BT.node (o452 P) PySem.W.BT.nil PySem.W.BT.nil)) (PySem.W.BT.node (o250 P) (PySem.W.BT.node (o386 P) PySem.W.BT.nil PySem.W.BT.nil) PySem.W.BT.nil)) (PySem.W.BT.node (o150 P) (PySem.W.BT.node (o218 P) (PySem.W.BT.node (o354 P) PySem.W.BT.nil PySem.W.BT.nil) PySem.W.BT.nil) (PySem.W.BT.node (o286 P) (PySem.W.BT.node (o420 P) PySem.W.BT.nil PySem.W.BT.nil) PySem.W.BT.nil))) (PySem.W.BT.node (o100 P) (PySem.W.BT.node (o134 P) (PySem.W.BT.node (o202 P) (PySem.W.BT.node (o338 P) PySem.W.BT.nil PySem.W.BT.nil) PySem.W.BT.nil) (PySem.W.BT.node (o270 P) (PySem.W.BT.node (o402 P) PySem.W.BT.nil PySem.W.BT.nil) PySem.W.BT.nil)) (PySem.W.BT.node (o166 P) (PySem.W.BT.node (o234 P) (PySem.W.BT.node (o370 P) PySem.W.BT.nil PySem.W.BT.nil) PySem.W.BT.nil) (PySem.W.BT.node (o302 P) (PySem.W.BT.node (o436 P) PySem.W.BT.nil PySem.W.BT.nil) PySem.W.BT.nil)))))) (PySem.W.BT.node (PySem.W.boot_o_6 P) (PySem.W.BT.node (PySem.W.boot_o_10 P) (PySem.W.BT.node (o55 P) (PySem.W.BT.node (o71 P) (PySem.W.BT.node (o106 P) (PySem.W.BT.node (o172 P) (PySem.W.BT.node (o308 P) PySem.W.BT.nil PySem.W.BT.nil) (PySem.W.BT.node (o442 P) PySem.W.BT.nil PySem.W.BT.nil)) (PySem.W.BT.node (o240 P) (PySem.W.BT.node (o376 P) PySem.W.BT.nil PySem.W.BT.nil) PySem.W.BT.nil)) (PySem.W.BT.node (o140 P) (PySem.W.BT.node (o208 P) (PySem.W.BT.node (o344 P) PySem.W.BT.nil PySem.W.BT.nil) PySem.W.BT.nil) (PySem.W.BT.node (o276 P) (PySem.W.BT.node (o408 P) PySem.W.BT.nil PySem.W.BT.nil) PySem.W.BT.nil))) (PySem.W.BT.node (o90 P) (PySem.W.BT.node (o124 P) (PySem.W.BT.node (o192 P) (PySem.W.BT.node (o326 P) PySem.W.BT.nil PySem.W.BT.nil) PySem.W.BT.nil) (PySem.W.BT.node (o256 P) (PySem.W.BT.node (o392 P) PySem.W.BT.nil PySem.W.BT.nil) PySem.W.BT.nil)) (PySem.W.BT.node (o156 P) (PySem.W.BT.node (o224 P) (PySem.W.BT.node (o360 P) PySem.W.BT.nil PySem.W.BT.nil) PySem.W.BT.nil) (PySem.W.BT.node (o292 P) (PySem.W.BT.node (o426 P) PySem.W.BT.nil PySem.W.BT.nil) PySem.W.BT.nil)))) (PySem.W.BT.node (o63 P) (PySem.W.BT.node (o82 P) (PySem.W.BT.node (o116 P) (PySem.W.BT.node (o180 P) (PySem.W.BT.node (o316 P) PySem.W.BT.nil PySem.W.BT.nil) (PySem.W.BT.node (o450 P) PySem.W.BT.nil PySem.W.BT.nil)) (PySem.W.BT.node (o248 P) (PySem.W.BT.node (o384 P) PySem.W.BT.nil PySem.W.BT.nil) PySem.W.BT.nil)) (PySem.W.BT.node (o148 P) (PySem.W.BT.node (o216 P) (PySem.W.BT.node (o352 P) PySem.W.BT.nil PySem.W.BT.nil) PySem.W.BT.nil) (PySem.W.BT.node (o284 P) (PySem.W.BT.node (o416 P) PySem.W.BT.nil PySem.W.BT.nil) PySem.W.BT.nil))) (PySem.W.BT.node (o98 P) (PySem.W.BT.node (o132 P) (PySem.W.BT.node (o200 P) (PySem.W.BT.node (o336 P) PySem.W.BT.nil PySem.W.BT.nil) PySem.W.BT.nil) (PySem.W.BT.node (o268 P) (PySem.W.BT.node (o400 P) PySem.W.BT.nil PySem.W.BT.nil) PySem.W.BT.nil)) (PySem.W.BT.node (o164 P) (PySem.W.BT.node (o232 P) (PySem.W.BT.node (o368 P) PySem.W.BT.nil PySem.W.BT.nil) PySem.W.BT.nil) (PySem.W.BT.node (o300 P) (PySem.W.BT.node (o434 P) PySem.W.BT.nil PySem.W.BT.nil) PySem.W.BT.nil))))) (PySem.W.BT.node (o46 P) (PySem.W.BT.node (o59 P) (PySem.W.BT.node (o81 P) (PySem.W.BT.node (o112 P) (PySem.W.BT.node (o176 P) (PySem.W.BT.node (o312 P) PySem.W.BT.nil PySem.W.BT.nil) (PySem.W.BT.node (o446 P) PySem.W.BT.nil PySem.W.BT.nil)) (PySem.W.BT.node (o244 P) (PySem.W.BT.node (o380 P) PySem.W.BT.nil PySem.W.BT.nil) PySem.W.BT.nil)) (PySem.W.BT.node (o144 P) (PySem.W.BT.node (o212 P) (PySem.W.BT.node (o348 P) PySem.W.BT.nil PySem.W.BT.nil) PySem.W.BT.nil) (PySem.W.BT.node (o280 P) (PySem.W.BT.node (o412 P) PySem.W.BT.nil PySem.W.BT.nil) PySem.W.BT.nil))) (PySem.W.BT.node (o94 P) (PySem.W.BT.node (o128 P) (PySem.W.BT.node (o196 P) (PySem.W.BT.node (o332 P) PySem.W.BT.nil PySem.W.BT.nil) PySem.W.BT.nil) (PySem.W.BT.node (o260 P) (PySem.W.BT.node (o396 P) PySem.W.BT.nil PySem.W.BT.nil) PySem.W.BT.nil)) (PySem.W.BT.node (o160 P) (PySem.W.BT.node (o228 P) (PySem.W.BT.node (o364 P) PySem.W.BT.nil PySem.W.BT.nil) PySem.W.BT.nil) (PySem.W.BT.node (o296 P) (PySem.W.BT.node (o430 P) PySem.W.BT.nil PySem.W.BT.nil) PySem.W.BT.nil)))) (PySem.W.BT.node (o67 P) (PySem.W.BT.node (o86 P) (PySem.W.BT.node (o120 P) (PySem.W.BT.node (o184 P) (PySem.W.BT.node (o320 P) PySem.W.BT.nil PySem.W.BT.nil) PySem.W.BT.nil) (PySem.W.BT.node (o252 P) (PySem.W.BT.node (o388 P) PySem.W.BT.nil PySem.W.BT.nil) PySem.W.BT.nil)) (PySem.W.BT.node (o152 P) (PySem.W.BT.node (o220 P) (PySem.W.BT.node (o356 P) PySem.W.BT.nil PySem.W.BT.nil) PySem.W.BT.nil) (PySem.W.BT.node (o288 P) (PySem.W.BT.node (o422 P) PySem.W.BT.nil PySem.W.BT.nil) PySem.W.BT.nil))) (PySem.W.BT.node (o102 P) (PySem.W.BT.node (o136 P) (PySem.W.BT.node (o204 P) (PySem.W.BT.node (o340 P) PySem.W.BT.nil PySem.W.BT.nil) PySem.W.BT.nil) (PySem.W.BT.node (o272 P) (PySem.W.BT.node (o404 P) PySem.W.BT.nil PySem.W.BT.nil) PySem.W.BT.nil)) (PySem.W.BT.node (o168 P) (PySem.W.BT.node (o236 P) (PySem.W.BT.node (o372 P) PySem.W.BT.nil PySem.W.BT.nil) PySem.W.BT.nil) (PySem.W.BT.node (o304 P) (PySem.W.BT.node (o438 P) PySem.W.BT.nil PySem.W.BT.nil) PySem.W.BT.nil))))))))
noncomputable def heap_46 : Params → PySem.Heap := fun P => (PySem.Heap.mk (Array.mk [(PySem.W.boot_o_0 P), (PySem.W.boot_o_1 P), (PySem.W.boot_o_2 P), (PySem.W.boot_o_3 P), (PySem.W.boot_o_4 P), (PySem.W.boot_o_5 P), (PySem.W.boot_o_6 P), (PySem.W.boot_o_7 P), (PySem.W.boot_o_8 P), (PySem.W.boot_o_9 P), (PySem.W.boot_o_10 P), (o43 P), (o44 P), (o45 P), (o46 P)]) (PySem.Life.mk [] [] [] 0 [] [] Bool.false (List.toArray []) [] 0 Bool.false Bool.false Bool.false (0 : Int) [(2000 : Int), (10 : Int), (10 : Int)] Bool.false 0 Bool.true [] [] 0 Bool.false))
noncomputable def heap_39 : Params → Frag := fun P => (nat_lit 2, o49 P) :: (nat_lit 3, o417 P) :: (nat_lit 15, o52 P) :: (nat_lit 17, o54 P) :: (nat_lit 18, o55 P) :: (nat_lit 20, o57 P) :: (nat_lit 21, o58 P) :: (nat_lit 22, o59 P) :: (nat_lit 24, o61 P) :: (nat_lit 25, o62 P) :: (nat_lit 27, o64 P) :: (nat_lit 28, o65 P) :: (nat_lit 29, o66 P) :: (nat_lit 36, o73 P) :: (nat_lit 37, o74 P) :: (nat_lit 38, o81 P) :: (nat_lit 39, o76 P) :: (nat_lit 42, o82 P) :: (nat_lit 49, o89 P) :: (nat_lit 51, o91 P) :: (nat_lit 52, o92 P) :: (nat_lit 54, o94 P) :: (nat_lit 55, o95 P) :: (nat_lit 56, o96 P) :: (nat_lit 57, o97 P) :: (nat_lit 58, o98 P) :: (nat_lit 61, o101 P) :: (nat_lit 63, o103 P) :: (nat_lit 64, o104 P) :: (nat_lit 66, o106 P) :: (nat_lit 67, o107 P) :: (nat_lit 75, o117 P) :: (nat_lit 77, o119 P) :: (nat_lit 78, o120 P) :: (nat_lit 80, o122 P) :: (nat_lit 81, o123 P) :: (nat_lit 82, o124 P) :: (nat_lit 84, o126 P) :: (nat_lit 85, o127 P) :: (nat_lit 87, o129 P) :: (nat_lit 88, o130 P) :: (nat_lit 89, o131 P) :: (nat_lit 91, o133 P) :: (nat_lit 92, o134 P) :: (nat_lit 94, o136 P) :: (nat_lit 95, o137 P) :: (nat_lit 96, o138 P) :: (nat_lit 98, o140 P) :: (nat_lit 99, o141 P) :: (nat_lit 101, o143 P) :: (nat_lit 102, o144 P) :: (nat_lit 103, o145 P) :: (nat_lit 105, o147 P) :: (nat_lit 106, o148 P) :: (nat_lit 108, o150 P) :: (nat_lit 109, o151 P) :: (nat_lit 110, o152 P) :: (nat_lit 112, o154 P) :: (nat_lit 113, o155 P) :: (nat_lit 115, o157 P) :: (nat_lit 116, o158 P) :: (nat_lit 117, o159 P) :: (nat_lit 119, o161 P) :: (nat_lit 120, o162 P) :: (nat_lit 122, o164 P) :: (nat_lit 123, o165 P) :: (nat_lit 124, o166 P) :: (nat_lit 126, o168 P) :: (nat_lit 127, o169 P) :: (nat_lit 129, o171 P) :: (nat_lit 130, o172 P) :: (nat_lit 131, o173 P) :: (nat_lit 133, o175 P) :: (nat_lit 134, o176 P) :: (nat_lit 136, o178 P) :: (nat_lit 137, o179 P) :: (nat_lit 138, o180 P) :: (nat_lit 139, o181 P) :: (nat_lit 140, o182 P) :: (nat_lit 141, o183 P) :: (nat_lit 142, o184 P) :: (nat_lit 152, o198 P) :: (nat_lit 154, o200 P) :: (nat_lit 155, o201 P) :: (nat_lit 157, o203 P) :: (nat_lit 158, o204 P) :: (nat_lit 159, o205 P) :: (nat_lit 161, o207 P) :: (nat_lit 162, o208 P) :: (nat_lit 164, o210 P) :: (nat_lit 165, o211 P) :: (nat_lit 166, o212 P) :: (nat_lit 168, o214 P) :: (nat_lit 169, o215 P) :: (nat_lit 171, o217 P) :: (nat_lit 172, o218 P) :: (nat_lit 173, o219 P) :: (nat_lit 175, o221 P) :: (nat_lit 176, o222 P) :: (nat_lit 178, o224 P) :: (nat_lit 179, o225 P) :: (nat_lit 180, o226 P) :: (nat_lit 182, o228 P) :: (nat_lit 183, o229 P) :: (nat_lit 185, o231 P) :: (nat_lit 186, o232 P) :: (nat_lit 187, o233 P) :: (nat_lit 189, o235 P) :: (nat_lit 190, o236 P) :: (nat_lit 192, o238 P) :: (nat_lit 193, o239 P) :: (nat_lit 194, o240 P) :: (nat_lit 196, o242 P) :: (nat_lit 197, o243 P) :: (nat_lit 199, o245 P) :: (nat_lit 200, o246 P) :: (nat_lit 201, o247 P) :: (nat_lit 203, o249 P) :: (nat_lit 204, o250 P) :: (nat_lit 206, o252 P) :: (nat_lit 207, o253 P) :: (nat_lit 208, o254 P) :: (nat_lit 209, o255 P) :: (nat_lit 210, o256 P) :: (nat_lit 211, o257 P) :: (nat_lit 212, o258 P) :: (nat_lit 222, o272 P) :: (nat_lit 224, o274 P) :: (nat_lit 225, o275 P) :: (nat_lit 227, o277 P) :: (nat_lit 228, o278 P) :: (nat_lit 229, o279 P) :: (nat_lit 231, o281 P) :: (nat_lit 232, o282 P) :: (nat_lit 234, o284 P) :: (nat_lit 235, o285 P) :: (nat_lit 236, o286 P) :: (nat_lit 238, o288 P) :: (nat_lit 239, o289 P) :: (nat_lit 241, o291 P) :: (nat_lit 242, o292 P) :: (nat_lit 243, o293 P) :: (nat_lit 245, o295 P) :: (nat_lit 246, o296 P) :: (nat_lit 248, o298 P) :: (nat_lit 249, o299 P) :: (nat_lit 250, o300 P) :: (nat_lit 252, o302 P) :: (nat_lit 253, o303 P) :: (nat_lit 255, o305 P) :: (nat_lit 256, o306 P) :: (nat_lit 257, o307 P) :: (nat_lit 259, o309 P) :: (nat_lit 260, o310 P) :: (nat_lit 262, o312 P) :: (nat_lit 263, o313 P) :: (nat_lit 264, o314 P) :: (nat_lit 265, o315 P) :: (nat_lit 266, o316 P) :: (nat_lit 267, o317 P) :: (nat_lit 268, o318 P) :: (nat_lit 271, o323 P) :: (nat_lit 273, o325 P) :: (nat_lit 274, o326 P) :: (nat_lit 276, o328 P) :: (nat_lit 277, o329 P) :: (nat_lit 285, o339 P) :: (nat_lit 286, o340 P) :: (nat_lit 288, o342 P) :: (nat_lit 289, o343 P) :: (nat_lit 291, o345 P) :: (nat_lit 292, o346 P) :: (nat_lit 293, o347 P) :: (nat_lit 295, o349 P) :: (nat_lit 296, o350 P) :: (nat_lit 298, o352 P) :: (nat_lit 299, o353 P) :: (nat_lit 300, o354 P) :: (nat_lit 302, o356 P) :: (nat_lit 303, o357 P) :: (nat_lit 305, o359 P) :: (nat_lit 306, o360 P) :: (nat_lit 307, o361 P) :: (nat_lit 309, o363 P) :: (nat_lit 310, o364 P) :: (nat_lit 312, o366 P) :: (nat_lit 313, o367 P) :: (nat_lit 314, o368 P) :: (nat_lit 316, o370 P) :: (nat_lit 317, o371 P) :: (nat_lit 319, o373 P) :: (nat_lit 320, o374 P) :: (nat_lit 321, o375 P) :: (nat_lit 323, o377 P) :: (nat_lit 324, o378 P) :: (nat_lit 326, o380 P) :: (nat_lit 327, o381 P) :: (nat_lit 328, o382 P) :: (nat_lit 330, o384 P) :: (nat_lit 331, o385 P) :: (nat_lit 333, o387 P) :: (nat_lit 334, o388 P) :: (nat_lit 335, o389 P) :: (nat_lit 337, o391 P) :: (nat_lit 338, o392 P) :: (nat_lit 340, o394 P) :: (nat_lit 341, o395 P) :: (nat_lit 342, o396 P) :: (nat_lit 344, o398 P) :: (nat_lit 345, o399 P) :: (nat_lit 347, o401 P) :: (nat_lit 348, o402 P) :: (nat_lit 349, o403 P) :: (nat_lit 351, o405 P) :: (nat_lit 352, o406 P) :: (nat_lit 354, o408 P) :: (nat_lit 355, o409 P) :: (nat_lit 356, o410 P) :: (nat_lit 357, o411 P) :: (nat_lit 358, o412 P) :: (nat_lit 359, o413 P) :: (nat_lit 360, o414 P) :: (nat_lit 370, o426 P) :: (nat_lit 372, o428 P) :: (nat_lit 373, o429 P) :: (nat_lit 375, o431 P) :: (nat_lit 376, o432 P) :: (nat_lit 377, o433 P) :: (nat_lit 378, o434 P) :: (nat_lit 379, o435 P) :: (nat_lit 380, o436 P) :: (nat_lit 381, o437 P) :: (nat_lit 384, o440 P) :: (nat_lit 386, o442 P) :: (nat_lit 387, o443 P) :: (nat_lit 389, o445 P) :: (nat_lit 390, o446 P) :: (nat_lit 391, o447 P) :: (nat_lit 393, o449 P) :: (nat_lit 394, o450 P) :: (nat_lit 396, o452 P) :: (nat_lit 397, o453 P) :: []
noncomputable def kAs : List Nat := nat_lit 2 :: nat_lit 3 :: nat_lit 15 :: nat_lit 17 :: nat_lit 18 :: nat_lit 20 :: nat_lit 21 :: nat_lit 22 :: nat_lit 24 :: nat_lit 25 :: nat_lit 27 :: nat_lit 28 :: nat_lit 29 :: nat_lit 36 :: nat_lit 37 :: nat_lit 38 :: nat_lit 39 :: nat_lit 42 :: nat_lit 49 :: nat_lit 51 :: nat_lit 52 :: nat_lit 54 :: nat_lit 55 :: nat_lit 56 :: nat_lit 57 :: nat_lit 58 :: nat_lit 61 :: nat_lit 63 :: nat_lit 64 :: nat_lit 66 :: nat_lit 67 :: nat_lit 75 :: nat_lit 77 :: nat_lit 78 :: nat_lit 80 :: nat_lit 81 :: nat_lit 82 :: nat_lit 84 :: nat_lit 85 :: nat_lit 87 :: nat_lit 88 :: nat_lit 89 :: nat_lit 91 :: nat_lit 92 :: nat_lit 94 :: nat_lit 95 :: nat_lit 96 :: nat_lit 98 :: nat_lit 99 :: nat_lit 101 :: nat_lit 102 :: nat_lit 103 :: nat_lit 105 :: nat_lit 106 :: nat_lit 108 :: nat_lit 109 :: nat_lit 110 :: nat_lit 112 :: nat_lit 113 :: nat_lit 115 :: nat_lit 116 :: nat_lit 117 :: nat_lit 119 :: nat_lit 120 :: nat_lit 122 :: nat_lit 123 :: nat_lit 124 :: nat_lit 126 :: nat_lit 127 :: nat_lit 129 :: nat_lit 130 :: nat_lit 131 :: nat_lit 133 :: nat_lit 134 :: nat_lit 136 :: nat_lit 137 :: nat_lit 138 :: nat_lit 139 :: nat_lit 140 :: nat_lit 141 :: nat_lit 142 :: nat_lit 152 :: nat_lit 154 :: nat_lit 155 :: nat_lit 157 :: nat_lit 158 :: nat_lit 159 :: nat_lit 161 :: nat_lit 162 :: nat_lit 164 :: nat_lit 165 :: nat_lit 166 :: nat_lit 168 :: nat_lit 169 :: nat_lit 171 :: nat_lit 172 :: nat_lit 173 :: nat_lit 175 :: nat_lit 176 :: nat_lit 178 :: nat_lit 179 :: nat_lit 180 :: nat_lit 182 :: nat_lit 183 :: nat_lit 185 :: nat_lit 186 :: nat_lit 187 :: nat_lit 189 :: nat_lit 190 :: nat_lit 192 :: nat_lit 193 :: nat_lit 194 :: nat_lit 196 :: nat_lit 197 :: nat_lit 199 :: nat_lit 200 :: nat_lit 201 :: nat_lit 203 :: nat_lit 204 :: nat_lit 206 :: nat_lit 207 :: nat_lit 208 :: nat_lit 209 :: nat_lit 210 :: nat_lit 211 :: nat_lit 212 :: nat_lit 222 :: nat_lit 224 :: nat_lit 225 :: nat_lit 227 :: nat_lit 228 :: nat_lit 229 :: nat_lit 231 :: nat_lit 232 :: nat_lit 234 :: nat_lit 235 :: nat_lit 236 :: nat_lit 238 :: nat_lit 239 :: nat_lit 241 :: nat_lit 242 :: nat_lit 243 :: nat_lit 245 :: nat_lit 246 :: nat_lit 248 :: nat_lit 249 :: nat_lit 250 :: nat_lit 252 :: nat_lit 253 :: nat_lit 255 :: nat_lit 256 :: nat_lit 257 :: nat_lit 259 :: nat_lit 260 :: nat_lit 262 :: nat_lit 263 :: nat_lit 264 :: nat_lit 265 :: nat_lit 266 :: nat_lit 267 :: nat_lit 268 :: nat_lit 271 :: nat_lit 273 :: nat_lit 274 :: nat_lit 276 :: nat_lit 277 :: nat_lit 285 :: nat_lit 286 :: nat_lit 288 :: nat_lit 289 :: nat_lit 291 :: nat_lit 292 :: nat_lit 293 :: nat_lit 295 :: nat_lit 296 :: nat_lit 298 :: nat_lit 299 :: nat_lit 300 :: nat_lit 302 :: nat_lit 303 :: nat_lit 305 :: nat_lit 306 :: nat_lit 307 :: nat_lit 309 :: nat_lit 310 :: nat_lit 312 :: nat_lit 313 :: nat_lit 314 :: nat_lit 316 :: nat_lit 317 :: nat_lit 319 :: nat_lit 320 :: nat_lit 321 :: nat_lit 323 :: nat_lit 324 :: nat_lit 326 :: nat_lit 327 :: nat_lit 328 :: nat_lit 330 :: nat_lit 331 :: nat_lit 333 :: nat_lit 334 :: nat_lit 335 :: nat_lit 337 :: nat_lit 338 :: nat_lit 340 :: nat_lit 341 :: nat_lit 342 :: nat_lit 344 :: nat_lit 345 :: nat_lit 347 :: nat_lit 348 :: nat_lit 349 :: nat_lit 351 :: nat_lit 352 :: nat_lit 354 :: nat_lit 355 :: nat_lit 356 :: nat_lit 357 :: nat_lit 358 :: nat_lit 359 :: nat_lit 360 :: nat_lit 370 :: nat_lit 372 :: nat_lit 373 :: nat_lit 375 :: nat_lit 376 :: nat_lit 377 :: nat_lit 378 :: nat_lit 379 :: nat_lit 380 :: nat_lit 381 :: nat_lit 384 :: nat_lit 386 :: nat_lit 387 :: nat_lit 389 :: nat_lit 390 :: nat_lit 391 :: nat_lit 393 :: nat_lit 394 :: nat_lit 396 :: nat_lit 397 :: []
noncomputable def view_39 : Program := view RP [0, 2, 4, 5, 7, 8, 9, 11, 13, 14, 16, 17, 18, 19, 20, 22, 24, 25]
noncomputable def env : Env := { scope := RP.main.scope, locals := mainNs, globals := mainNs, cells := [], code := .ref 13, frame := some 14 }
noncomputable def cB : Code := .body (behindTheImports RP) env
abbrev q0 : Pos := ⟨0, 0, 0, 0⟩
def sT (t : Params → BT) (n k : Nat) (w : World) (os : OsState) : SharedT := ⟨t w.params, n, {}, Array.mk [], {}, k, os⟩
noncomputable def sB (w : World) (os : OsState) : Shared := ⟨boot_heap w.params, Array.mk [], boot_drawn, boot_toks, os⟩
noncomputable def sA (w : World) (os : OsState) : Shared := ⟨heap_46 w.params, Array.mk [], {}, 187, os⟩
noncomputable def hFin (P : Params) : PySem.Heap := absHeap (tree_453 P) 398 {}
noncomputable def sF (w : World) (os : OsState) : Shared := ⟨hFin w.params, Array.mk [], {}, 749, os⟩
noncomputable def cut (i n : Nat) : List Stmt := (RP.main.body.drop i).take n
theorem pre (w : World) : (fun os => topGo treeTable RP w 11 (some (.ref 6)) 12 (sB w os) (topStub RP)) = fun os => some (sA w os, ⟨denote treeTable cB, cB, q0, [topFrame q0]⟩) := by kernel_rfl
theorem block (w : World) : (fun os => segRun treeTable RP w 11 (some (.ref 6)) 1 1 (sA w os) (blockOf (behindTheImports RP) env cB q0 [topFrame q0])) = fun os => some (.next, (sT tree_47 15 187 w os).abs, cB, q0) := by kernel_rfl
theorem g1 (w : World) : (fun os => segRunT treeTable RP w 11 (some (.ref 6)) 1 580 (sT tree_47 15 187 w os) (piecesOf (cut 0 9) env cB ⟨0, 0, 0, 0⟩ [topFrame q0])) = fun os => some (.next, sT tree_107 68 267 w os, cB, ⟨21, 0, 28, 12⟩) := by kernel_rfl
theorem g2 (w : World) : (fun os => segRunT treeTable RP w 11 (some (.ref 6)) 1 500 (sT tree_107 68 267 w os) (piecesOf (cut 9 2) env cB ⟨21, 0, 28, 12⟩ [topFrame q0])) = fun os => some (.next, sT tree_187 145 368 w os, cB, ⟨65, 0, 65, 8⟩) := by kernel_rfl
theorem g3 (w : World) : (fun os => segRunT treeTable RP w 11 (some (.ref 6)) 1 480 (sT tree_187 145 368 w os) (piecesOf (cut 11 3) env cB ⟨65, 0, 65, 8⟩ [topFrame q0])) = fun os => some (.next, sT tree_261 215 468 w os, cB, ⟨100, 0, 100, 4⟩) := by kernel_rfl
theorem g4 (w : World) : (fun os => segRunT treeTable RP w 11 (some (.ref 6)) 1 460 (sT tree_261 215 468 w os) (piecesOf (cut 14 6) env cB ⟨100, 0, 100, 4⟩ [topFrame q0])) = fun os => some (.next, sT tree_329 278 555 w os, cB, ⟨127, 0, 128, 46⟩) := by kernel_rfl
theorem g5 (w : World) : (fun os => segRunT treeTable RP w 11 (some (.ref 6)) 1 530 (sT tree_329 278 555 w os) (piecesOf (cut 20 1) env cB ⟨127, 0, 128, 46⟩ [topFrame q0])) = fun os => some (.next, sT tree_416 363 673 w os, cB, ⟨129, 0, 176, 17⟩) := by kernel_rfl
theorem g6 (w : World) : (fun os => segRunT treeTable RP w 11 (some (.ref 6)) 1 330 (sT tree_416 363 673 w os) (piecesOf (cut 21 5) env cB ⟨129, 0, 176, 17⟩ [topFrame q0])) = fun os => some (.next, sT tree_453 398 749 w os, cB, ⟨201, 0, 230, 68⟩) := by kernel_rfl
theorem fin (w : World) : (fun os => topRun treeTable RP w 11 (some (.ref 6)) 2 (sT tree_453 398 749 w os).abs ⟨doneF .next, cB, ⟨201, 0, 230, 68⟩, [topFrame q0]⟩) = fun os => some (sF w os) := by kernel_rfl
theorem run (w : World) (os : OsState) : topRun treeTable RP w 11 (some (.ref 6)) (Nat.add 12 (Nat.add 1 (Nat.add 580 (Nat.add 500 (Nat.add 480 (Nat.add 460 (Nat.add 530 (Nat.add 330 2)))))))) (sB w os) (topStub RP) = some (sF w os) :=
  go_top (congrFun (pre w) os) (piece_block (congrFun (block w) os) (piece_app (segRun_of (congrFun (g1 w) os)) (piece_app (segRun_of (congrFun (g2 w) os)) (piece_app (segRun_of (congrFun (g3 w) os)) (piece_app (segRun_of (congrFun (g4 w) os)) (piece_app (segRun_of (congrFun (g5 w) os)) (piece_app (segRun_of (congrFun (g6 w) os)) (congrFun (fin w) os))))))))
end Mine.hd
namespace Mine.hd
theorem kEq (P : Params) : kAs = (heap_39 P).map (·.1) := by kernel_rfl
noncomputable abbrev kH : Hook := kHook heap_39 kAs kEq
noncomputable abbrev xt (s : Shared) : Bool := xlAt view_39 [] s && recOk PySem.Challenge.rw_pq0773_01.row.toRowW.records s
theorem size (w : World) : ((boot_heap w.params).isNs mainGlobals && (Array.mk [] : Array GenState).size == 0, (boot_heap w.params).objs.size, (boot_heap w.params).nsMap mainGlobals "__annotations__") = (true, 11, some (.ref 6)) := by kernel_rfl
theorem look1 (w : World) : (fun os => staticsOk (importedModules RP.main.body) (boot_heap w.params) (hFin w.params) && namesBound RP (hFin w.params) && gensDone (sF w os) && laidKept (boot_heap w.params) (hFin w.params)) = fun _ => true := by kernel_rfl
theorem look2 (w : World) : (fun os => openSeen view_39 [] (importedModules RP.main.body) xt true (sF w os)) = fun _ => openGood view_39 [] := by kernel_rfl
theorem look3 (w : World) : (fun os => kH.obs (sF w os)) = fun _ => kH.val w := by kernel_rfl
theorem opened : opening RP = plainProg RP.main.scope.names := by kernel_rfl
theorem fenced (s : Shared) : fenceModules? RP s = some s := by kernel_rfl
theorem left : LeftO RP view_39 [] xt kH.obs kH.val 5812 :=
  LeftO.of_pieces (H₁ := hFin) (boot_open opened (by decide) fenced) size run (by decide) (fun w => funext fun os => looks_pair (congrFun (look1 w) os) (looks_pair (congrFun (look2 w) os) (congrFun (look3 w) os)))
end Mine.hd
namespace Mine
theorem top_off : True := by
  w_top off
  trivial
theorem fill : PySem.Challenge.rw_pq0773_01 = PySem.Challenge.rw_pq0773_01 ∧ Mine.hd.heap_39 = Mine.hd.heap_39 := by
  k_fill
  exact ⟨rfl, rfl⟩
end Mine
namespace Mine
abbrev PR : Program := PySem.Challenge.rw_pq0773_01.row.prog

theorem pow_bound {k : Int} {l : Nat} (h0 : 0 ≤ k) (h1 : k ≤ 100) : 0 ≤ k.fdiv (l : Int) ∧ k.fdiv (l : Int) ≤ 1000000 := by
  cases l with
  | zero => simp
  | succ l =>
    have hp : (0 : Int) < ((l + 1 : Nat) : Int) := by omega
    rw [Int.fdiv_eq_ediv_of_nonneg _ (Int.le_of_lt hp)]
    refine ⟨Int.ediv_nonneg h0 (by omega), ?_⟩
    have := Int.ediv_le_self (((l + 1 : Nat) : Int)) h0
    omega
theorem pow_step {prog : Program} {w : World} {A : Around} {E Q : Value → Shared → Prop} {s : Shared} {k : Int} {l : Nat} {t u : Tok} (h0 : 0 ≤ k) (h1 : k ≤ 100)
    (h : Q (.int (7 ^ (k.fdiv (l : Int)).toNat) s.toks) { s with toks := s.toks + 1 }) :
    wpAny (model prog w) A (binaryOp .Pow (.int 7 t) (.int (k.fdiv (l : Int)) u)) Q E s :=
  pow_int_small (pow_bound h0 h1).1 (pow_bound h0 h1).2 (by decide) h
theorem pow_ne {n : Nat} (h : (7 : Int) ^ n = 0) : False := by
  have := Int.pow_pos (n := 7) (m := n) (by decide)
  omega
theorem fmod_in {a m : Int} (h : 0 < m) : 0 ≤ a.fmod m ∧ a.fmod m < m := ⟨fmod_lo a h, fmod_hi a h⟩

local macro_rules | `(tactic| walk_at "binaryOp Pow int int") => `(tactic| (k_here; with_reducible refine pow_step (by assumption) (by assumption) ?_))

theorem take_walk {w : World} {mean : ExcName → Option Value} {mg mb : Str → Option Value} {cn : Str} {cs : Scope} {a : Addr} {ccd : Value} {base h₀ : Heap} {L : Addr} {m : Str → Option Value} {s : Shared}
    {D R : Addr} {vs : List Value} {ns : List Int} {k : Int} {t u : Tok} {n nR : Nat} {most : Int} {own : List (Addr × Obj)} {Q E : Value → Shared → Prop}
    (B : Below callerA base [] h₀) (F : Fr h₀ L s.heap m) (X : (Mine.hd.heap_39 w.params).In h₀) (N : News h₀ L s.heap ((D, listOf #[.ref R, .int k t] n) :: (R, listOf vs.toArray nR) :: own))
    (T : Top Mine.hd.view_39 (looseW Mine.hd.view_39 []) mean mg mb h₀) (hk : cs.kind = .function) (hoff : OwnOff own [D]) (hDR : @LT.lt Nat _ R D)
    (hi : IntsAre vs ns) (hlen : ns.length ≤ 40) (h0 : 0 ≤ k) (h1 : k ≤ 100) (hm : 0 < most) (hm8 : most ≤ 8)
    (ret : ∀ r t1 t2 h' tk', 0 ≤ r → r < most → Fr h₀ L h' m → News h₀ L h' ((D, listOf #[.ref R, .int (k + 1) t1] n) :: (R, listOf vs.toArray nR) :: own) → Q (.int r t2) { s with heap := h', toks := tk' }) :
    wpAny (model PR w) (callerA.deeper (envOf cn cs L a ccd)) (call (.ref 390) [.ref D, .int most u]) Q E s := by
  refine wpAny_call ?_
  k_dflt cell_enter
  k_steps
  · refine ret _ _ _ _ _ (by omega) hm (by assumption) (cb_drop (by assumption) (fun p hp => .tail _ hp))
  · exfalso
    simp only [decide_eq_false_iff_not] at *
    rcases ns with _ | ⟨x, r⟩
    · exact absurd rfl (by assumption)
    · simp only [List.length_cons] at *; omega
  · exact (pow_ne (by assumption)).elim
  · refine ret _ _ _ _ _ (fmod_in hm).1 (fmod_in hm).2 (by assumption) (cb_drop (by assumption) (fun p hp => .tail _ hp))

theorem take_call {w : World} {mean : ExcName → Option Value} {mg mb : Str → Option Value} {cn : Str} {cs : Scope} {a : Addr} {ccd : Value} {base h₀ : Heap} {L : Addr} {m : Str → Option Value} {s : Shared}
    {D R : Addr} {vs : List Value} {ns : List Int} {k : Int} {t u : Tok} {n nR : Nat} {most : Int} {news : List (Addr × Obj)} {Q E : Value → Shared → Prop}
    (B : Below callerA base [] h₀) (F : Fr h₀ L s.heap m) (X : (Mine.hd.heap_39 w.params).In h₀) (N : News h₀ L s.heap news)
    (T : Top Mine.hd.view_39 (looseW Mine.hd.view_39 []) mean mg mb h₀) (hk : cs.kind = .function)
    (U : ∀ t1, ∃ news', Upd D (listOf #[.ref R, .int k t] n) (listOf #[.ref R, .int (k + 1) t1] n) news news') (hR : (R, listOf vs.toArray nR) ∈ news) (hDR : @LT.lt Nat _ R D)
    (hi : IntsAre vs ns) (hlen : ns.length ≤ 40) (h0 : 0 ≤ k) (h1 : k ≤ 100) (hm : 0 < most) (hm8 : most ≤ 8)
    (ret : ∀ r t1 t2 h' tk', 0 ≤ r → r < most → Fr h₀ L h' m → (∀ news', Upd D (listOf #[.ref R, .int k t] n) (listOf #[.ref R, .int (k + 1) t1] n) news news' → News h₀ L h' news') → Q (.int r t2) { s with heap := h', toks := tk' }) :
    wpAny (model PR w) (callerA.deeper (envOf cn cs L a ccd)) (call (.ref 390) [.ref D, .int most u]) Q E s := by
  obtain ⟨nw, U0⟩ := U 0
  obtain ⟨pre, post, e, _, ha, hb⟩ := U0.split
  refine take_walk (own := pre ++ post) (n := n) (nR := nR) (t := t) B F X (cb_drop N ?_) T hk ?_ hDR hi hlen h0 h1 hm hm8 fun r t1 t2 h' tk' hr0 hr1 F' N' => ret r t1 t2 h' tk' hr0 hr1 F' fun news' U' => cb_drop N' ?_
  · intro p hp
    rcases List.mem_cons.mp hp with rfl | hp
    · rw [e]; simp
    · rcases List.mem_cons.mp hp with rfl | hp
      · exact hR
      · rw [e]
        rcases List.mem_append.mp hp with hp | hp
        · exact List.mem_append_left _ hp
        · exact List.mem_append_right _ (.tail _ hp)
  · intro p hp b hb'
    rw [List.mem_singleton.mp hb']
    rcases List.mem_append.mp hp with hp | hp
    · exact ha p hp
    · exact hb p hp
  · obtain ⟨pre', post', e', e2, ha', hb'⟩ := U'.split
    have key : ∀ p ∈ news, p.1 ≠ D → p ∈ pre ++ post := by
      intro p hp hne
      rw [e] at hp
      rcases List.mem_append.mp hp with hp | hp
      · exact List.mem_append_left _ hp
      · rcases List.mem_cons.mp hp with rfl | hp
        · exact absurd rfl hne
        · exact List.mem_append_right _ hp
    intro p hp
    rw [e2] at hp
    rcases List.mem_append.mp hp with hp | hp
    · exact .tail _ (.tail _ (key p (by rw [e']; exact List.mem_append_left _ hp) (ha' p hp)))
    · rcases List.mem_cons.mp hp with rfl | hp
      · exact .head _
      · exact .tail _ (.tail _ (key p (by rw [e']; exact List.mem_append_right _ (.tail _ hp)) (hb' p hp)))
end Mine
namespace Mine
section
variable {prog : Program} {w : World} {A : Around} {E : Value → Shared → Prop} {h : Heap} {g : Array GenState} {d : Drawn} {t : Nat} {os : OsState}
variable {nm q : Str} {C N : Addr} {bs bm bmB : List Value} {hdct : Bool} {sn : List Str} {sub : List Value} {ab : Bool} {col : Option Bool} {dd : Option Addr} {k0 k1 k2 k3 k5 : Option Value} {B newId initId : String}

abbrev tupObj (vs : List Value) : Obj := { cls := .type "tuple", data := .seq vs.toArray }
abbrev excObj (C t : Addr) (dx : Option Addr) : Obj := { cls := .ref C, dict := dx, data := .fields #[.ref t, .none, .none, .none, .bool false, .none] }

theorem exc_inner (F : ExcBaseFacts B newId initId bmB) (T : OwnTail h bmB bm) {mN : Str → Option Value} {rest : List Value} {fI : Addr} {oI : Obj} {Q : Fin → Shared → Prop}
    (hC : h.get? C = some (excClassObj nm q C N bs bm hdct sn sub ab col dd k0 k1 k2 k3 k5 newId)) (hn : h.Ns N mN) (hi : mN "__init__" = some (.ref fI))
    (hfI : h.get? fI = some oI) (hfc : oI.cls = .type "function")
    (hq : wpAny (model prog w) A (call (.ref fI) (.ref (h.objs.size + 1) :: rest)) (fun r s' => r = .none ∧ Q (.done (.ret (.ref (h.objs.size + 1)))) s') E ⟨(h.push (tupObj rest)).push (excObj C h.objs.size none), g, d, t, os⟩) (hrest : rest.length ≤ sizeLine) :
    wpAny (model prog w) A (Builtin.«type.__call__» ⟨.ref C :: rest, []⟩) Q E ⟨h, g, d, t, os⟩ := by
  have stay : ∀ b o, h.get? b = some o → ((h.push (tupObj rest)).push (excObj C h.objs.size none)).get? b = some o := fun b o e => Heap.get?_push_of_some _ (Heap.get?_push_of_some _ e)
  have made : ((h.push (tupObj rest)).push (excObj C h.objs.size none)).get? (h.objs.size + 1) = some (excObj C h.objs.size none) := by
    have := Heap.get?_push_size (h.push (tupObj rest)) (o := excObj C h.objs.size none) rfl
    rwa [Heap.size_push] at this
  have hn₁ : ((h.push (tupObj rest)).push (excObj C h.objs.size none)).Ns N mN := let ⟨o, es, ep, e, r⟩ := hn; ⟨o, es, ep, stay _ _ e, r⟩
  have self : (Value.ref C :: bm).contains (.ref C) = true := by simp
  repeat (first | with_reducible refine wpAny_loadPart_at hC ?_ | with_reducible refine wpAny_madeBy_exc hC ?_ | wp_step)
  refine codeAny_call_builtin_code (Code.quiet_builtin _ F.quiet) (wpAny_check_new_subT F T hC (codeAny_exc_new_subT F T hC ?_ hrest))
  show wpAny _ _ _ _ _ _
  unfold isInstance
  have hC₁ := stay _ _ hC
  repeat (first | with_reducible refine wpAny_loadPart_at made ?_ | (with_reducible refine wpAny_isSubtype_exc hC₁ ?_; rw [self]) | wp_step)
  show wpAny _ _ (typeLookup (.ref C) _) _ _ _
  refine wpAny_typeLookup_tail hC₁ hn₁ (T.keeps stay) F.mroIs F.init.lookup ?_
  rw [hi]
  refine wpAny_holding (wpAny_bind ?_)
  unfold bindSpecial
  refine wpAny_bind (wpAny_typeOf (T := "function") ⟨_, stay _ _ hfI, hfc⟩ ?_)
  rw [if_pos (by decide)]
  refine wpAny_pure (wpAny_bind (wpAny_mono hq (fun r s' hr => ?_) fun _ _ x => x))
  obtain ⟨rfl, hQ⟩ := hr
  wp_walk
  exact hQ

theorem exc_call (F : ExcBaseFacts B newId initId bmB) (T : OwnTail h bmB bm) {mN : Str → Option Value} {rest : List Value} {fI : Addr} {oI : Obj} {Q : Value → Shared → Prop}
    (hC : h.get? C = some (excClassObj nm q C N bs bm hdct sn sub ab col dd k0 k1 k2 k3 k5 newId)) (hn : h.Ns N mN) (hi : mN "__init__" = some (.ref fI))
    (hfI : h.get? fI = some oI) (hfc : oI.cls = .type "function")
    (hq : wpAny (model prog w) (A.under (.builtin "type.__call__" ⟨.ref C :: rest, []⟩)) (call (.ref fI) (.ref (h.objs.size + 1) :: rest)) (fun r s' => r = .none ∧ Q (.ref (h.objs.size + 1)) s') E ⟨(h.push (tupObj rest)).push (excObj C h.objs.size none), g, d, t, os⟩) (hrest : rest.length ≤ sizeLine) :
    wpAny (model prog w) A (call (.ref C) rest) Q E ⟨h, g, d, t, os⟩ := by
  have f1 := tc_lookup
  have f2 := tc_bind (.ref C)
  have hT : (⟨h, g, d, t, os⟩ : Shared).TypeIs (.ref C) "type" := ⟨_, hC, rfl⟩
  refine wpAny_call (codeAny_of_tree ?_)
  show wpAny _ _ (callAny (.ref C) _) _ _ _
  repeat (any_goals (first | assumption | with_reducible refine wpAny_loadPart_at hC ?_ | wp_step))
  refine ⟨rfl, ?_⟩
  exact codeAny_call_builtin_at (Code.quiet_builtin _ (by decide +kernel)) entry_typeCall (wpAny_check_type_call_sub hC (exc_inner F T hC hn hi hfI hfc hq hrest))
end
end Mine
namespace Mine
section
variable {prog : Program} {w : World} {A : Around} {E : Value → Shared → Prop} {s : Shared} {K : Frag} {x C dx L : Addr} {h₀ : Heap} {m : Str → Option Value} {name : Str} {v : Value} {tk : Tok} {es : List DictEntry} {n : Nat}

theorem store_dict {Q : PySem.Fin → Shared → Prop} (D : s.heap.get? dx = some (dictOf es n)) (hl : (getL name es).isSome = true) (hz : (putL name (PyData.keyHash w.params name) (.str name s.toks) v es).length ≤ 1000)
    (h : Q (.done (.ret .none)) { s with heap := s.heap.update dx (Obj.putName name (PyData.keyHash w.params name) (.str name s.toks) v), toks := s.toks + 1 }) :
    wpAny (model prog w) A (Builtin.ObjectAttr.storeInDict dx (.str name tk) name v) Q E s := by
  unfold Builtin.ObjectAttr.storeInDict Builtin.ObjectAttr.newKeyGuard
  refine wpAny_bind (wpAny_pure (wpAny_bind ?_))
  unfold nsSet
  refine wpAny_bind (wpAny_bind (wpAny_askSetting (wpAny_pure (wpAny_bind (wpAny_mkText (wpAny_bind (wpAny_loadPart D ?_)))))))
  dsimp only
  have c : (!es.toArray.any (·.key.isStr name) && es.toArray.any (·.refKey)) = false := by
    rw [← Array.any_toList, ← Array.any_toList]
    unfold getL at hl
    split at hl
    · rename_i en he
      rw [List.any_eq_true.mpr ⟨en, List.mem_of_find?_eq_some he, List.find?_some he⟩]; rfl
    · split at hl
      · cases hl
      · rename_i z
        rw [Bool.not_eq_true] at z
        rw [z, Bool.and_false]
  rw [aRefKeyMayBeTheName_at, c]
  refine wpAny_updatePart D ?_
  have D' : (s.heap.update dx (Obj.putName name (PyData.keyHash w.params name) (.str name s.toks) v)).get? dx = some (dictOf (putL name (PyData.keyHash w.params name) (.str name s.toks) v es) (putN name es n)) := by
    rw [← putName_dict]
    exact Heap.get?_update_self _ D (by rw [putName_dict]; rfl)
  refine wpAny_bind (wpAny_lookBehind D' (pastItsLine_dict (by rw [List.size_toArray, sizeLine_eq]; omega)) ?_)
  exact wpAny_pure h

variable {R : Result → Shared → Prop} {ox : Obj} {od : Option Obj} {cd : ClassData} {news : List (Addr × Obj)}
theorem osaE_open (X : K.In s.heap) (I : InstAt s.heap x ox C od) (hc : clsIn K C = some cd) (hp : ∀ self, refuseLoop self "__setattr__" cd.mro = pure ()) (hob : mroIn K C (.type "object") = some true) (ht : takerIn K C name = some none)
    (h : ∀ b, wpAny (model prog w) A.in1 (Builtin.ObjectAttr.storeInOwnDict (.ref x) (.ref C) (.str name tk) name v b)
      (fun fin s' => match fin with | .done f => R (.ok f) s' | .again c' => c'.quiet = true ∧ codeAny (model prog w) A c' R s') (fun e s' => R (.error e) s') s) :
    codeAny (model prog w) A (.call (.builtin "object.__setattr__") ⟨[.ref x, .str name tk, v], []⟩) R s := by
  have SF := PySem.F.store_object
  have sub : Looks (model prog w) s.heap (isInstance (.ref x) (.type "object")) true := I.type.andThen (looks_mroIn X hob)
  refine codeAny_call_builtin SF.slot.plain SF.entry (@check_slot (model prog w) _ _ s "object.__setattr__" "object" "__setattr__" (.ref x) [.str name tk, v] [] _ SF.kind SF.split sub (SF.args (.ref x) (.str name tk) v) ?_)
  obtain ⟨attr, ha, hr⟩ := Option.bind_eq_some_iff.mp ht
  have hm : Looks (model prog w) s.heap (mroOf (.ref C)) cd.mro := (looks_clsIn X hc).andThen .now
  have taker : Looks (model prog w) s.heap (Builtin.ObjectAttr.storeTaker? attr) none := by
    cases attr with
    | none => exact .now
    | some a =>
      obtain ⟨b, hb, hbb⟩ := Option.map_eq_some_iff.mp hr
      cases b with
      | true => cases hbb
      | false => exact (looks_takesIn X hb).andThen .now
  rw [osa_eq, refuse_eq]
  refine wpAny_bind (wpAny_bind (I.type.here (wpAny_bind (hm.here ?_))))
  rw [hp]
  exact wpAny_pure (wpAny_bind (I.type.here (wpAny_bind ((looks_findIn X ha).here (wpAny_bind (taker.here (h _)))))))

theorem set_excHas {t : Addr} {es' : List DictEntry} {n' : Nat} {news' : List (Addr × Obj)} {Q : Unit → Shared → Prop} (F : Fr h₀ L s.heap m) (X₀ : K.In h₀) (N : News h₀ L s.heap news) (hx : (x, excObj C t (some dx)) ∈ news)
    (hs : findIn K (.ref C) "__setattr__" = some (some (.builtin "object.__setattr__"))) (hc : clsIn K C = some cd) (hp : ∀ self, refuseLoop self "__setattr__" cd.mro = pure ()) (hob : mroIn K C (.type "object") = some true) (ht : takerIn K C name = some none) (hh : cd.hasDict = true)
    (hl : (getL name es).isSome = true) (e : (putL name (PyData.keyHash w.params name) (.str name (s.toks + 1)) v es, putN name es n) = (es', n')) (U : Upd dx (dictOf es n) (dictOf es' n') news news') (hz : es'.length ≤ 1000)
    (h : ∀ h', Fr h₀ L h' m → News h₀ L h' news' → Q () { s with heap := h', toks := s.toks + 2 }) :
    wpAny (model prog w) A (setAttr (.ref x) name v) Q E s := by
  have X := X₀.keeps F.keep
  obtain ⟨pre, post, hn, rfl, ha, hb⟩ := U.split
  obtain ⟨e1, e2⟩ := Prod.mk.inj e
  have D := (N (dx, dictOf es n) (by rw [hn]; simp)).1
  have I : InstAt s.heap x (excObj C t (some dx)) C (some (dictOf es n)) := ⟨(N _ hx).1, rfl, rfl, D⟩
  have N' : News h₀ L s.heap (pre ++ (dx, dictOf es n) :: post) := hn ▸ N
  obtain ⟨U1, U2⟩ := news_upd (f := Obj.putName name (PyData.keyHash w.params name) (.str name (s.toks + 1)) v) F N' ha hb (by rw [putName_dict, e1, e2]) rfl
  refine set_plain X I hs (osaE_open (s := { s with toks := s.toks + 1 }) X I hc hp hob ht fun b => ?_)
  refine wpAny_bind (wpAny_pure (wpAny_bind (wpAny_bind (wpAny_loadPart I.at_ (wpAny_bind (Looks.here (s := { s with toks := s.toks + 1 }) (looks_clsIn X hc) ?_))))))
  rw [hh]
  refine wpAny_pure (a := some dx) ?_
  exact store_dict D hl (by rw [e1]; exact hz) (h _ U1 U2)

theorem set_excNew {t : Addr} {Q : Unit → Shared → Prop} (F : Fr h₀ L s.heap m) (X₀ : K.In h₀) (N : News h₀ L s.heap news)
    (hs : findIn K (.ref C) "__setattr__" = some (some (.builtin "object.__setattr__"))) (hc : clsIn K C = some cd) (hp : ∀ self, refuseLoop self "__setattr__" cd.mro = pure ()) (hob : mroIn K C (.type "object") = some true) (ht : takerIn K C name = some none) (hh : cd.hasDict = true)
    (U : ∃ news', Upd x (excObj C t none) (excObj C t none) news news')
    (h : ∀ dx h', Fr h₀ L h' m → (∀ news', Upd x (excObj C t none) (excObj C t (some dx)) news news' → News h₀ L h' ((dx, dictOf [⟨PyData.keyHash w.params name, .str name (s.toks + 1), v⟩] 1) :: news')) → (∀ p ∈ news, p.1 < dx) → Q () { s with heap := h', toks := s.toks + 2 }) :
    wpAny (model prog w) A (setAttr (.ref x) name v) Q E s := by
  have X := X₀.keeps F.keep
  obtain ⟨_, U⟩ := U
  obtain ⟨pre, post, hn, _, ha, hb⟩ := U.split
  have hx := (N (x, excObj C t none) (by rw [hn]; simp)).1
  have I : InstAt s.heap x (excObj C t none) C none := ⟨hx, rfl, rfl, trivial⟩
  refine set_plain X I hs (osaE_open (s := { s with toks := s.toks + 1 }) X I hc hp hob ht fun b => ?_)
  refine wpAny_bind (wpAny_pure (wpAny_bind (wpAny_bind (wpAny_loadPart I.at_ (wpAny_bind (Looks.here (s := { s with toks := s.toks + 1 }) (looks_clsIn X hc) ?_))))))
  rw [hh]
  have D₁ : (s.heap.push { cls := .type "dict", data := .dict #[] }).get? s.heap.objs.size = some (dictOf [] 0) := Heap.get?_push_size _ rfl
  have hne : s.heap.objs.size ≠ x := Nat.ne_of_gt (Heap.lt_size hx)
  have D₂ : ((s.heap.push { cls := .type "dict", data := .dict #[] }).update x fun o => { cls := o.cls, dict := some s.heap.objs.size, data := o.data, slots := o.slots }).get? s.heap.objs.size = some (dictOf [] 0) :=
    (Heap.get?_update_ne _ _ _ _ hne).trans D₁
  have F₁ := F.push { cls := .type "dict", data := .dict #[] }
  have N₁ : News h₀ L (s.heap.push { cls := .type "dict", data := .dict #[] }) (((s.heap.objs.size, dictOf [] 0) :: pre) ++ (x, excObj C t none) :: post) := by
    have := News.push F N { cls := .type "dict", data := .dict #[] }
    rw [hn] at this
    exact this
  have hx₁ : (s.heap.push { cls := .type "dict", data := .dict #[] }).get? x = some (excObj C t none) := Heap.get?_push_of_some _ hx
  obtain ⟨F₂, N₂⟩ := news_upd (f := fun o => { cls := o.cls, dict := some s.heap.objs.size, data := o.data, slots := o.slots }) (o' := excObj C t (some s.heap.objs.size)) F₁ N₁ (by
    intro p hp
    rcases List.mem_cons.mp hp with rfl | hp
    · exact hne
    · exact ha p hp) hb rfl rfl
  obtain ⟨F₃, N₃⟩ := news_upd (pre := []) (f := Obj.putName name (PyData.keyHash w.params name) (.str name (s.toks + 1)) v) (o' := dictOf [⟨PyData.keyHash w.params name, .str name (s.toks + 1), v⟩] 1) F₂ N₂ (fun _ hp => nomatch hp) (by
    intro p hp
    have hlt : ∀ q ∈ news, q.1 ≠ s.heap.objs.size := fun q hq => Nat.ne_of_lt (Heap.lt_size (N q hq).1)
    rcases List.mem_append.mp hp with hp | hp
    · exact hlt p (by rw [hn]; exact List.mem_append_left _ hp)
    · rcases List.mem_cons.mp hp with rfl | hp
      · exact Ne.symm hne
      · exact hlt p (by rw [hn]; exact List.mem_append_right _ (.tail _ hp))) (by rw [putName_dict]; rfl) rfl
  refine wpAny_bind (wpAny_alloc' ?_)
  refine wpAny_bind (wpAny_update' hx₁ ?_)
  refine wpAny_pure (a := some s.heap.objs.size) ?_
  refine store_dict (es := []) (n := 0) D₂ rfl (Nat.le_of_ble_eq_true rfl) ?_
  refine h s.heap.objs.size _ F₃ (fun news' U' => ?_) (fun p hp => Heap.lt_size (N p hp).1)
  obtain ⟨pre', post', hn₁, rfl, ha', hb'⟩ := U'.split
  intro p hp
  rcases List.mem_cons.mp hp with rfl | hp
  · exact N₃ _ (List.mem_append_right _ (.head _))
  have other : ∀ q ∈ news, q.1 ≠ x → q ∈ pre ++ post := fun q hq hne => by
    rw [hn] at hq
    rcases List.mem_append.mp hq with hq | hq
    · exact List.mem_append_left _ hq
    · rcases List.mem_cons.mp hq with rfl | hq
      · exact absurd rfl hne
      · exact List.mem_append_right _ hq
  have there : ∀ q ∈ pre ++ post, q ∈ [] ++ (s.heap.objs.size, dictOf [⟨PyData.keyHash w.params name, .str name (s.toks + 1), v⟩] 1) :: (pre ++ (x, excObj C t (some s.heap.objs.size)) :: post) := fun q hq => by
    refine .tail _ ?_
    rcases List.mem_append.mp hq with hq | hq
    · exact List.mem_append_left _ hq
    · exact List.mem_append_right _ (.tail _ hq)
  rcases List.mem_append.mp hp with hp | hp
  · exact N₃ _ (there _ (other p (by rw [hn₁]; exact List.mem_append_left _ hp) (ha' p hp)))
  · rcases List.mem_cons.mp hp with rfl | hp
    · exact N₃ _ (.tail _ (List.mem_append_right _ (.head _)))
    · exact N₃ _ (there _ (other p (by rw [hn₁]; exact List.mem_append_right _ (.tail _ hp)) (hb' p hp)))
end
end Mine
namespace Mine
noncomputable def Kp {α : Type} : Sem α → Prop
  | .pure _ => True
  | .raise _ => True
  | .unsupported _ => True
  | .finish _ => True
  | .rule _ k => Kp (k ())
  | .at _ k => Kp (k ())
  | .load _ _ k => ∀ o, Kp (k o)
  | .update _ _ f k => (∀ o : Obj, (f o).dict = o.dict ∧ (o.isFreed = false → (f o).isFreed = false)) ∧ Kp (k ())
  | .alloc _ k => ∀ a, Kp (k a)
  | .loadIfAlive _ k => ∀ o, Kp (k o)
  | .point _ k => Kp (k ())
  | .register _ _ => True
  | .fresh k => ∀ x, Kp (k x)
  | .ask k => ∀ x, Kp (k x)
  | .choose _ _ k => ∀ x, Kp (k x)
  | .os _ _ k => ∀ x, Kp (k x)
  | .call _ _ _ _ _ => False
  | .handled _ k => ∀ x, Kp (k x)
  | .newGen _ k => ∀ x, Kp (k x)
  | .genState _ k => ∀ x, Kp (k x)
  | .resume _ _ _ _ => False
  | .yield _ _ _ _ => True
  | .stack k => ∀ x, Kp (k x)
  | .fork _ _ => True
  | .thread k => ∀ x, Kp (k x)
  | .await _ _ _ _ _ => True

theorem Kp.bind {α β : Type} {t : Sem α} {f : α → Sem β} (h : Kp t) (hf : ∀ a, Kp (f a)) : Kp (t >>= f) := by
  show Kp (t.bind f)
  induction t with
  | pure a => exact hf a
  | raise e => trivial
  | unsupported w => trivial
  | finish e => trivial
  | rule t k ih => exact ih () h
  | «at» p k ih => exact ih () h
  | load a p k ih => exact fun o => ih o (h o)
  | update a p g k ih => exact ⟨h.1, ih () h.2⟩
  | alloc o k ih => exact fun a => ih a (h a)
  | loadIfAlive a k ih => exact fun o => ih o (h o)
  | point l k ih => exact ih () h
  | register a k ih => trivial
  | fresh k ih => exact fun o => ih o (h o)
  | ask k ih => exact fun o => ih o (h o)
  | choose s n k ih => exact fun o => ih o (h o)
  | os q l k ih => exact fun o => ih o (h o)
  | call c hh g l k ih => exact h.elim
  | handled o k ih => exact fun o => ih o (h o)
  | newGen c k ih => exact fun o => ih o (h o)
  | genState g k ih => exact fun o => ih o (h o)
  | resume g r l k ih => exact h.elim
  | yield v g l k ih => trivial
  | stack k ih => exact fun o => ih o (h o)
  | fork c k ih => trivial
  | thread k ih => exact fun o => ih o (h o)
  | await a t d l k ih => trivial

def DictAt (e : Addr) (dx : Option Addr) (h : Heap) : Prop := ∃ o, h.get? e = some o ∧ o.dict = dx
theorem DictAt.update {e a : Addr} {dx : Option Addr} {h : Heap} {f : Obj → Obj} (D : DictAt e dx h) (hf : ∀ o : Obj, (f o).dict = o.dict ∧ (o.isFreed = false → (f o).isFreed = false)) : DictAt e dx (h.update a f) := by
  obtain ⟨o, ho, hd⟩ := D
  by_cases q : a = e
  · subst q
    exact ⟨f o, Heap.get?_update_self _ ho ((hf o).2 (Heap.get?_some_iff.mp ho).2), (hf o).1.trans hd⟩
  · exact ⟨o, (Heap.get?_update_other _ _ q).trans ho, hd⟩
theorem DictAt.push {e : Addr} {dx : Option Addr} {h : Heap} {o' : Obj} (D : DictAt e dx h) : DictAt e dx (h.push o') :=
  let ⟨o, ho, hd⟩ := D
  ⟨o, Heap.get?_push_of_some _ ho, hd⟩

theorem kp_wp {α : Type} {M : Model} {Γ : Ctx} {e : Addr} {dx : Option Addr} {t : Sem α} (k : Kp t) : ∀ {Q : α → Pos → Shared → Prop} {E : Value → Pos → Shared → Prop} {p : Pos} {s : Shared}, DictAt e dx s.heap → Sem.wp M Γ t Q E p s →
    Sem.wp M Γ t (fun a p s' => DictAt e dx s'.heap ∧ Q a p s') (fun x p s' => DictAt e dx s'.heap ∧ E x p s') p s := by
  induction t with
  | pure a => intro Q E p s D h; simp only [Sem.wp] at h ⊢; exact ⟨D, h⟩
  | raise e => intro Q E p s D h; simp only [Sem.wp] at h ⊢; exact ⟨D, h⟩
  | unsupported w => intro Q E p s D h; simp only [Sem.wp] at h
  | finish e => intro Q E p s D h; simp only [Sem.wp] at h
  | rule t k ih => intro Q E p s D h; simp only [Sem.wp] at h ⊢; exact ih () k D h
  | «at» p k ih => intro Q E p s D h; simp only [Sem.wp] at h ⊢; exact ih () k D h
  | load a p kk ih => intro Q E p s D h; simp only [Sem.wp] at h ⊢; obtain ⟨o, ho, h⟩ := h; exact ⟨o, ho, ih o (k o) D h⟩
  | update a p g kk ih => intro Q E p s D h; simp only [Sem.wp] at h ⊢; exact ⟨h.1, ih () k.2 (D.update k.1) h.2⟩
  | alloc o kk ih => intro Q E p s D h; simp only [Sem.wp] at h ⊢; exact ih _ (k _) D.push h
  | loadIfAlive a kk ih => intro Q E p s D h; simp only [Sem.wp] at h ⊢; exact ih _ (k _) D h
  | point l kk ih => intro Q E p s D h; simp only [Sem.wp] at h ⊢; exact ih () k D h
  | register a kk ih => intro Q E p s D h; simp only [Sem.wp] at h
  | fresh kk ih => intro Q E p s D h; simp only [Sem.wp] at h ⊢; exact ih _ (k _) D h
  | ask kk ih => intro Q E p s D h; simp only [Sem.wp] at h ⊢; exact ih _ (k _) D h
  | choose s n kk ih => intro Q E p s D h; simp only [Sem.wp] at h ⊢; exact ⟨h.1, ih _ (k _) D h.2⟩
  | os q l kk ih => intro Q E p s D h; simp only [Sem.wp] at h ⊢; exact ih _ (k _) D h
  | call c hh g l kk ih => exact k.elim
  | handled o kk ih => intro Q E p s D h; simp only [Sem.wp] at h ⊢; exact ih _ (k _) D h
  | newGen c kk ih => intro Q E p s D h; simp only [Sem.wp] at h ⊢; exact ih _ (k _) D h
  | genState g kk ih => intro Q E p s D h; simp only [Sem.wp] at h ⊢; obtain ⟨st, hst, h⟩ := h; exact ⟨st, hst, ih _ (k _) D h⟩
  | resume g r l kk ih => exact k.elim
  | yield v g l kk ih => intro Q E p s D h; simp only [Sem.wp] at h
  | stack kk ih => intro Q E p s D h; simp only [Sem.wp] at h ⊢; exact ih _ (k _) D h
  | fork c kk ih => intro Q E p s D h; simp only [Sem.wp] at h
  | thread kk ih => intro Q E p s D h; simp only [Sem.wp] at h ⊢; exact ih _ (k _) D h
  | await a t d l kk ih => intro Q E p s D h; simp only [Sem.wp] at h

theorem kp_any {α : Type} {M : Model} {A : Around} {e : Addr} {dx : Option Addr} {t : Sem α} {Q : α → Shared → Prop} {E : Value → Shared → Prop} {s : Shared} (k : Kp t) (D : DictAt e dx s.heap) (h : wpAny M A t Q E s) :
    wpAny M A t (fun a s' => DictAt e dx s'.heap ∧ Q a s') (fun x s' => DictAt e dx s'.heap ∧ E x s') s := fun Γ p hΓ => kp_wp k D (h Γ p hΓ)

theorem kp_pure {α : Type} (a : α) : Kp (pure a : Sem α) := trivial
theorem kp_unsupported {α : Type} (w : String) : Kp (unsupported w : Sem α) := trivial
theorem kp_load (a : Addr) : Kp (load a) := fun _ => trivial
theorem kp_fieldsOf (v : Value) : Kp (fieldsOf v) := by
  unfold fieldsOf
  split
  · refine Kp.bind (kp_load _) fun o => ?_
    split <;> trivial
  · trivial
theorem kp_field (v : Value) (i : Nat) : Kp (field v i) := by
  unfold field
  refine Kp.bind (kp_fieldsOf v) fun vs => ?_
  split <;> trivial
theorem mapFields_dict (f : Array Value → Array Value) (o : Obj) : (Obj.mapFields f o).dict = o.dict ∧ (o.isFreed = false → (Obj.mapFields f o).isFreed = false) := by
  obtain ⟨c, d, dt, sl⟩ := o
  cases dt <;> exact ⟨rfl, fun h => h⟩
theorem kp_setField (v : Value) (i : Nat) (x : Value) : Kp (setField v i x) := by
  unfold setField updateField
  split
  · refine Kp.bind (kp_load _) fun o => ?_
    split
    · split
      · exact ⟨mapFields_dict _, trivial⟩
      · trivial
    · trivial
  · trivial
theorem kp_stack : Kp stack := fun _ => trivial
theorem kp_ready : ∀ l : List Env, Kp (readyFrames l)
  | [] => trivial
  | env :: outer => by
    unfold readyFrames
    split
    · refine Kp.bind (kp_load _) fun o => ?_
      split
      · trivial
      · refine Kp.bind ?_ fun imp => Kp.bind ?_ fun back => Kp.bind ?_ fun _ => kp_ready outer
        · unfold behindIsImport
          split
          · trivial
          · split
            · trivial
            · exact Kp.bind (kp_field _ _) fun _ => trivial
        · unfold keptBack
          split
          · split
            · trivial
            · exact Kp.bind (Kp.bind kp_stack fun _ => trivial) fun _ => trivial
          · trivial
        · refine ⟨fun o => ⟨rfl, fun h => ?_⟩, trivial⟩
          obtain ⟨c, d, dt, sl⟩ := o
          cases dt <;> first | rfl | exact h
    · trivial
theorem kp_frameOf (env : Env) : Kp (PySem.frameOf env) := by
  unfold PySem.frameOf
  refine Kp.bind ?_ fun fs => ?_
  · unfold frameEnvs
    exact Kp.bind kp_stack fun _ => trivial
  · refine Kp.bind ?_ fun r => ?_
    · unfold frameObject
      split
      · trivial
      · exact Kp.bind (kp_ready _) fun _ => trivial
    · split <;> trivial
theorem kp_newEntry (next frame lineno flight lasti : Value) (place : List Value) : Kp (EntryCells.newEntry next frame lineno flight lasti place) := by
  unfold EntryCells.newEntry newFields newObj
  dsimp only
  have mk : ∀ d, Kp (newObjAsIs (.type "traceback") d) := fun d => Kp.bind (t := alloc _) (fun _ => trivial) fun a => trivial
  split
  all_goals (split <;> first | exact mk _ | trivial)
theorem kp_entryPlaceOf (f : Addr) (b : Bool) : Kp (entryPlaceOf f b) := by
  unfold entryPlaceOf
  refine Kp.bind kp_stack fun acts => ?_
  split <;> trivial
theorem kp_noteFrame (e : Value) (env : Env) : Kp (noteFrame e env) := by
  unfold noteFrame
  split
  · refine Kp.bind (kp_field _ _) fun head => ?_
    have fin : ∀ f b, Kp (do let a ← PySem.frameOf env; let pl ← entryPlaceOf f b; let c ← EntryCells.newEntry head a .none (rawInt f) .none pl; setField e 1 c) := fun f b =>
      Kp.bind (kp_frameOf env) fun _ => Kp.bind (kp_entryPlaceOf _ _) fun _ => Kp.bind (kp_newEntry ..) fun _ => kp_setField ..
    split
    · refine Kp.bind (kp_field _ _) fun x => ?_
      split
      · trivial
      · exact Kp.bind (kp_setField ..) fun _ => fin _ _
    · exact fin _ _
  · trivial
theorem kp_setFlight (e : Value) (f : Option Addr) : Kp (setFlight e f) := by
  unfold setFlight
  refine Kp.bind (kp_field _ _) fun tb => ?_
  split
  · exact kp_setField ..
  · trivial
theorem kp_leaving (env : Env) (e : Value) : Kp (leaving env e) := Kp.bind (kp_noteFrame e env) fun _ => kp_setFlight e none
end Mine
namespace Mine
def RaisedE (base : Heap) (l : List Env) (e C dx : Addr) (news : List (Addr × Obj)) (h : Heap) : Prop :=
  ∃ B a0, base.StaysIn B ∧ (∀ q ∈ news, B.get? q.1 = some q.2 ∧ base.get? q.1 = none) ∧ Heap.FlyingW B l e (.ref C) a0 h ∧ DictAt e (some dx) h

section
variable {M : Model} {A : Around} {E : Value → Shared → Prop} {s' : Shared} {base g h : Heap} {outer : List Env} {L a e t C dx : Addr} {m : Str → Option Value} {name : Str} {scope : Scope} {cd : Value} {Q : Unit → Shared → Prop} {news news' : List (Addr × Obj)}

theorem leave_exc (K : Below A base outer g) (F : Fr g L s'.heap m) (N : News g L s'.heap news) (he : (e, excObj C t (some dx)) ∈ news) (hs : ∀ q ∈ news', q ∈ news ∧ q.1 ≠ e)
    (hQ : ∀ h', RaisedE base outer e C dx news' h' → g.UpToSlots h' → Q () { s' with heap := h' }) (hk : scope.kind = .function := by rfl) :
    wpAny M (A.deeper (envOf name scope L a cd)) (leaving (envOf name scope L a cd) (.ref e)) Q E s' := by
  have K' := K.push (name := name) (a := a) (cd := cd) F hk
  have hee := (N _ he).1
  have hframes : ∀ b, b ∈ (envOf name scope L a cd :: outer).filterMap (·.frame) → ∀ o, (b, o) ∉ news := fun b hm o hq => by
    obtain ⟨env, hen, hf⟩ := List.mem_filterMap.mp hm
    rcases List.mem_cons.mp hen with rfl | hen
    · exact (N _ hq).2.1 (Option.some.inj hf).symm
    · obtain ⟨o', ho', _⟩ := (K.frames.mem (List.mem_filterMap.mpr ⟨env, hen, hf⟩)).2
      have := (N _ hq).2.2
      dsimp only at this
      rw [this] at ho'
      cases ho'
  have hin : ∀ env ∈ (envOf name scope L a cd :: outer), ∀ b, env.frame = some b → b ∈ e :: (envOf name scope L a cd :: outer).filterMap (·.frame) := fun env hen b hb => .tail _ (List.mem_filterMap.mpr ⟨env, hen, hb⟩)
  have st : base.StaysIn (hideAll s'.heap (e :: (envOf name scope L a cd :: outer).filterMap (·.frame))) := fun b o q => hideAll_get _ (K'.stays b o q) fun hm => by
    rcases List.mem_cons.mp hm with rfl | hm
    · have := fresh_of_stays K.stays (N _ he).2.2
      dsimp only at this
      rw [this] at q
      cases q
    · rw [(K'.frames.mem hm).1] at q
      cases q
  have hl : ∀ q ∈ news', (hideAll s'.heap (e :: (envOf name scope L a cd :: outer).filterMap (·.frame))).get? q.1 = some q.2 ∧ base.get? q.1 = none := fun q hq => by
    obtain ⟨h1, h2⟩ := hs q hq
    refine ⟨hideAll_get _ (N q h1).1 fun hm => ?_, fresh_of_stays K.stays (N q h1).2.2⟩
    rcases List.mem_cons.mp hm with h3 | h3
    · exact h2 h3
    · exact hframes _ h3 q.2 h1
  have hen := hideAll_none (h := s'.heap) (e :: (envOf name scope L a cd :: outer).filterMap (·.frame)) (List.Mem.head _)
  have D : DictAt e (some dx) s'.heap := ⟨_, hee, rfl⟩
  refine wpAny_mono (kp_any (kp_leaving _ _) D (wpAny_leaving_firstW (Q := fun _ s₂ => ∃ h', s₂ = { s' with heap := h' } ∧ Heap.LeftW _ _ e (.ref C) (.ref t) s'.heap h') (a0 := .ref t) K'.stack (funFrames_hide K'.frames hin) rfl hee (fun b o hb => of_hideAll _ hb) hen rfl rfl rfl fun h' hL => ⟨h', rfl, hL⟩)) (fun _ s₂ p => ?_) fun _ _ x => x.2
  obtain ⟨D', h', rfl, k1, ⟨_, _, k2⟩, k3, k4⟩ := p
  exact hQ h' ⟨_, .ref t, st, hl, ⟨k1, hen, k2, k3⟩, D'⟩ ((Heap.UpToSlots.of_keeps F.keep).trans k4)
end

section
variable {prog : Program} {w : World} {A₀ : Around} {E : Value → Shared → Prop} {s' : Shared} {h₀ h : Heap} {outer : List Env} {L a e dx : Addr} {m : Str → Option Value} {name : Str} {scope : Scope} {cd : Value}
  {n : Str} {b₀ : Stmt} {suite : List Stmt} {pos np : Pos} {rest : List ExceptHandler} {Q : Flow → Shared → Prop} {news : List (Addr × Obj)} {KF : Frag} {C : Addr}
  {p : Program} {loose : List Str} {mg mb : Str → Option Value} {x : Str}
  {nm q : Str} {N : Addr} {bs bm : List Value} {hdct : Bool} {sn : List Str} {sub : List Value} {ab : Bool} {col : Option Bool} {dd : Option Addr} {k0 k1 k2 k3 k5 : Option Value} {newId : String}

theorem caught_exc (K : Below A₀ h₀ outer h₀) (F : Fr h₀ L h m) (hsm : h.UpToSlots s'.heap) (R : RaisedE h₀ (envOf name scope L a cd :: outer) e C dx news s'.heap)
    (X : KF.In h₀) (T : TopRead p loose mg mb h₀) (ex : nsIn KF mainGlobals x = some (some (.ref C))) (hCo : KF.lookup C = some (excClassObj nm q C N bs bm hdct sn sub ab col dd k0 k1 k2 k3 k5 newId)) (hbase : bm.contains (.type "BaseException") = true)
    (k : ∀ h' tk ws sl, Fr h₀ L h' (fun y => if y = n then some (.ref e) else m y) → News h₀ L h' ((e, (⟨.ref C, some dx, .fields ws, sl⟩ : Obj)) :: news) →
      wpAny (model prog w) ((A₀.deeper (envOf name scope L a cd)).mark (some (.ref e))) (execs (b₀ :: suite) (envOf name scope L a cd))
        (fun f s₄ => wpAny (model prog w) (A₀.deeper (envOf name scope L a cd)) (do bindName (envOf name scope L a cd) n .none; unbindBehindTheSuite (envOf name scope L a cd) n pos) (fun _ s₅ => Q f s₅) E s₄)
        (AsSuiteRaised (model prog w) ((A₀.deeper (envOf name scope L a cd)).mark (some (.ref e))) (envOf name scope L a cd) n pos (notedBy (model prog w) ((A₀.deeper (envOf name scope L a cd)).mark (some (.ref e))) (envOf name scope L a cd) (cameBackBy (model prog w) (A₀.deeper (envOf name scope L a cd)) (envOf name scope L a cd) E)))
        { s' with heap := h', toks := tk })
    (hk : scope.kind = .function := by rfl) (hlo : (envOf name scope L a cd).kindOf n = some .local := by rfl) (hx : (envOf name scope L a cd).kindOf x = some .globalImplicit := by rfl) (hd : (x == ("__debug__" : Str)) = false := by decide) :
    wpAny (model prog w) (A₀.deeper (envOf name scope L a cd)) (noteFrame (.ref e) (envOf name scope L a cd))
      (fun _ s₂ => wpAny (model prog w) (A₀.deeper (envOf name scope L a cd)) (setFlight (.ref e) none) (fun _ s₃ =>
        wpAny (model prog w) (A₀.deeper (envOf name scope L a cd)) (handleBy (.ref e) (envOf name scope L a cd) (.ExceptHandler (some (.Name x np)) (some n) (b₀ :: suite) pos :: rest)) Q E s₃) E s₂) E s' := by
  obtain ⟨B, a0, hB, hl, hfl, D⟩ := R
  have hL : B.get? L = none := by
    obtain ⟨_, ⟨L', _, hf, hn', _⟩, _⟩ := hfl.2.2.1
    obtain rfl : L = L' := Option.some.inj hf
    exact hn'
  refine wpAny_mono (kp_any (kp_noteFrame _ _) D (wpAny_looks_onW (Q := fun _ s₂ => ∃ h', s₂ = { s' with heap := h' } ∧ Heap.HeldW B (envOf name scope L a cd :: outer) e (.ref C) a0 L h' ∧ s'.heap.UpToSlots h') (Around.frames_deeper K.stack) rfl hfl fun h₄ hheld₄ hsm₄ => ⟨h₄, rfl, hheld₄, hsm₄⟩)) (fun _ s₂ z => ?_) fun _ _ z => z.2
  obtain ⟨D₄, h₄, rfl, hheld₄, hsm₄⟩ := z
  refine wpAny_mono (kp_any (kp_setFlight _ _) D₄ (wpAny_landsW (Q := fun _ s₃ => ∃ h', s₃ = { s' with heap := h' } ∧ Heap.FlyingW B (envOf name scope L a cd :: outer) e (.ref C) a0 h' ∧ h₄.UpToSlots h') hheld₄ fun h₅ hheld hsm₅ => ⟨h₅, rfl, hheld, hsm₅⟩)) (fun _ s₃ z => ?_) fun _ _ z => z.2
  obtain ⟨D₅, h₅, rfl, hheld, hsm₅'⟩ := z
  have hsm₅ := hsm₄.trans hsm₅'
  have hheld' := flyingW_base hB hheld
  have F₅ := F.of_stays hheld'.1 (hsm.trans hsm₅)
  obtain ⟨ob, hob, hobc⟩ := hheld'.there
  refine wpAny_handleBy_cons (codeAny_handlers_test (name_K F₅ X T ex ?_ hk hx hd)) (by intro q; cases q)
  have hC := (X.keeps F₅.keep) _ _ hCo
  refine wpAny_excMatches_sub_self hC hob hobc hbase (codeAny_handlers_suite_as ?_)
  refine wpAny_mono (kp_any (kp_setFlight _ _) D₅ (lands_againW (Q := fun _ s₃ => ∃ h', s₃ = { s' with heap := h' } ∧ Heap.FlyingW B (envOf name scope L a cd :: outer) e (.ref C) a0 h' ∧ h₅.UpToSlots h') hheld fun h₆ hfl₆ hsm₆ => ⟨h₆, rfl, hfl₆, hsm₆⟩)) (fun _ s₃ z => ?_) fun _ _ z => z.2
  obtain ⟨D₆, h₆, rfl, hfl₆, hsm₆⟩ := z
  have hfl₆' := flyingW_base hB hfl₆
  have F₆ := F.of_stays hfl₆'.1 ((hsm.trans hsm₅).trans hsm₆)
  obtain ⟨oe, ws, hoe, hoec, hoed, hoe0⟩ := hfl₆'.first
  obtain ⟨oe', hoe', hdict⟩ := D₆
  obtain rfl : oe = oe' := Option.some.inj (hoe.symm.trans hoe')
  have heq : oe = (⟨.ref C, some dx, .fields ws, oe.slots⟩ : Obj) := by
    obtain ⟨c, d, dt, sl⟩ := oe
    dsimp only at hoec hoed hdict
    subst hoec hoed hdict
    rfl
  rw [heq] at hoe
  have Nl : News h₀ L h₆ news := fun q hq => ⟨hfl₆.1 _ _ (hl q hq).1, (fun z => by have := (hl q hq).1; rw [z, hL] at this; cases this), (hl q hq).2⟩
  have N₆ : News h₀ L h₆ ((e, (⟨.ref C, some dx, .fields ws, oe.slots⟩ : Obj)) :: news) := News.more F₆ Nl hoe (fun es n q => by cases q) hfl₆'.2.1
  refine stN F₆ N₆ (fun h₇ F₇ N₇ => ?_) hk hlo
  exact k h₇ _ _ _ F₇ N₇
end
end Mine
namespace Mine
section
variable {prog : Program} {w : World} {A : Around} {E : Value → Shared → Prop} {s : Shared} {K : Frag} {x C : Addr} {ox : Obj} {od : Option Obj} {name : Str} {expr : Bool} {Q : Value → Shared → Prop} {v : Value}
theorem bexc_ga_kind : builtinKind "BaseException.__getattribute__" = some .slot := by decide +kernel
theorem bexc_ga_split : splitId "BaseException.__getattribute__" = some ("BaseException", "__getattribute__") := by decide +kernel

theorem get_exc (ga : Slot "Exception" "__getattribute__" "BaseException.__getattribute__") (X : K.In s.heap) (I : InstAt s.heap x ox C od) (hga : findIn K (.ref C) "__getattribute__" = some (some (.builtin "BaseException.__getattribute__")))
    (hgt : findIn K (.ref C) "__getattr__" = some none) (hb : mroIn K C (.type "BaseException") = some true) (hf : findObj K C od name = some (.value v)) (hh : handedIn v = true) (h : Q v { s with toks := s.toks + 1 }) :
    wpAny (model prog w) A (getAttr (.ref x) name expr) Q E s := by
  obtain ⟨hp, g, d, t, os⟩ := s
  have L0 := I.type (M := model prog w)
  have L1 := looks_findIn (M := model prog w) X hga
  have L2 := looks_findIn (M := model prog w) X hgt
  have L3 := looks_find (M := model prog w) X I hf
  have sub : Looks (model prog w) hp (isInstance (.ref x) (.type "BaseException")) true := L0.andThen (looks_mroIn X hb)
  have hx2 : (onTheHeap (Value.ref C) && Value.builtin "BaseException.__getattribute__" == Value.builtin "object.__getattribute__") = false := by
    have q : (Value.builtin "BaseException.__getattribute__" == Value.builtin "object.__getattribute__") = false := by decide +kernel
    rw [q, Bool.and_false]
  have hx0 : (expr && onTheHeap (Value.builtin "BaseException.__getattribute__")) = false := by cases expr <;> rfl
  unfold getAttr getAttrBy
  refine wpAny_bind (wpAny_mkText (wpAny_holding (wpAny_bind (L0.at (wpAny_bind (L1.at ?_))))))
  dsimp only
  rw [hx2]
  simp only [Bool.false_eq_true, if_false]
  unfold getAttrByItsOwn hookBefore
  refine wpAny_bind (L2.at (wpAny_bind (wpAny_attempt (wpAny_holding ?_))))
  unfold callGetattribute
  rw [hx0]
  simp only [Bool.false_eq_true, if_false]
  unfold boundAndCalled
  rw [ga.bind]
  refine wpAny_bind (wpAny_pure (wpAny_call (codeAny_call_builtin ga.plain F.entry_bexc_ga (@check_slot (model prog w) _ _ ⟨hp, g, d, t + 1, os⟩ "BaseException.__getattribute__" "BaseException" "__getattribute__" (.ref x) [.str name t] [] _ bexc_ga_kind bexc_ga_split sub (F.args_bexc_ga _ _) ?_))))
  unfold Builtin.«object.__getattribute__»
  refine wpAny_bind (wpAny_pure ?_)
  refine wpAny_bind (wpAny_pure (wpAny_bind (L0.at (wpAny_bind (L3.at ?_)))))
  refine wpAny_pure ?_
  show wpAny _ _ (handedOut v) _ _ _
  rw [handedOut_of hh]
  exact wpAny_pure h
theorem ga_Exception : Slot "Exception" "__getattribute__" "BaseException.__getattribute__" :=
  .of (owner := "BaseException") (n := "__getattribute__") (by rw [typeLookup_type, builtinLookup_eq_fast]; kernel_rfl) (by decide +kernel) (by decide +kernel) (by decide +kernel)
    (by first | exact .inl (by decide +kernel) | exact .inr (by decide +kernel)) (by rw [isSubtype_type]; kernel_rfl)
end
end Mine
namespace Mine
section
variable {M : Model} {A : Around} {E : Value → Shared → Prop} {s : Shared} {env : Env}
variable {nm q : Str} {C N : Addr} {bs bm : List Value} {hdct : Bool} {sn : List Str} {sub : List Value} {ab : Bool} {col : Option Bool} {dd : Option Addr} {k0 k1 k2 k3 k5 : Option Value} {newId : String}
def RaiseBack (C : Addr) (o : Obj) (E : Value → Shared → Prop) (v : Value) (s₁ : Shared) : Prop :=
  ∃ e t dx, v = .ref e ∧ s₁.heap.get? C = some o ∧ s₁.heap.get? e = some (excObj C t dx) ∧ E (.ref e) s₁
theorem raise_exc {x : Sem Value} {Q : Flow → Shared → Prop} (hbase : bm.contains (.type "BaseException") = true) (hh : A.handled = none)
    (h : wpAny M A x (RaiseBack C (excClassObj nm q C N bs bm hdct sn sub ab col dd k0 k1 k2 k3 k5 newId) E) E s) :
    wpAny M A (raiseStmt env (some x) none) Q E s := by
  have hcB : (Value.ref C :: bm).contains (.type "BaseException") = true := by rw [List.contains_cons, hbase, Bool.or_true]
  unfold raiseStmt
  refine wpAny_bind (wpAny_mono h (fun v s₁ h₁ => ?_) fun _ _ x => x)
  obtain ⟨e, t, dx, rfl, hC, he, hE⟩ := h₁
  obtain ⟨hp, g, d, tk, os⟩ := s₁
  repeat (first | with_reducible refine wpAny_loadPart_at he ?_ | with_reducible refine wpAny_loadPart_at hC ?_ | (with_reducible refine wpAny_isSubtype_exc hC ?_; rw [hcB]) | wp_step)
  exact wpAny_raiseNew_none hh hE
theorem Raise_exc {ex : PySem.Expr} {pos : Pos} {Q : Flow → Shared → Prop} (o : Obj) (ho : o = excClassObj nm q C N bs bm hdct sn sub ab col dd k0 k1 k2 k3 k5 newId) (hbase : bm.contains (.type "BaseException") = true) (hh : A.handled = none)
    (h : wpAny M A (eval ex env) (RaiseBack C o E) E s) : wpAny M A (exec (.Raise (some ex) none pos) env) Q E s := by
  subst ho
  rw [arm_exec_Raise]
  refine wpAny_bind (wpAny_standAt (raise_exc (C := C) (nm := nm) (q := q) (N := N) (bs := bs) (bm := bm) (hdct := hdct) (sn := sn) (sub := sub) (ab := ab) (col := col) (dd := dd) (k0 := k0) (k1 := k1) (k2 := k2) (k3 := k3) (k5 := k5) (newId := newId) hbase hh ?_))
  exact wpAny_bind (wpAny_mono h (fun v s₃ h₃ => wpAny_bind (wpAny_standAt (wpAny_pure h₃))) fun _ _ x => x)
end
end Mine
namespace Mine
theorem ns_some_of {K : Frag} {h : Heap} {N : Addr} {mN : Str → Option Value} {n : Str} {v : Value} (X : K.In h) (G : h.Ns N mN) (e : nsIn K N n = some (some v)) : mN n = some v := by
  obtain ⟨o, es, ep, ho, hd, _, hf⟩ := G
  unfold nsIn at e
  split at e
  · rename_i c d es' n' sl q
    have := X _ _ q
    rw [ho] at this
    cases this
    cases hd
    split at e
    · rename_i en he
      cases e
      rw [← hf]
      unfold nsFind findBy
      rw [← Array.find?_toList, he]
      rfl
    · split at e <;> cases e
  · cases e
def keyStr (e : DictEntry) : Bool := match e.key with | .str _ _ => true | _ => false
theorem nsOk_of {K : Frag} {N : Addr} {c : Value} {dd : Option Addr} {es : Array DictEntry} {n : Nat} {sl : Array (Option Value)} (h : K.lookup N = some ⟨c, dd, .dict es n, sl⟩) (hb : es.toList.all keyStr = true) : nsOkIn K N = true := by
  unfold nsOkIn
  rw [h]
  show es.all keyStr = true
  rw [← Array.all_toList]
  exact hb
theorem exc_makeK {prog : Program} {w : World} {A : Around} {E Q : Value → Shared → Prop} {s : Shared} {K : Frag} {h₀ : Heap} {L C Y N fI : Addr} {m : Str → Option Value} {news : List (Addr × Obj)} {rest : List Value}
    {nm q : Str} {bs : List Value} {hdct : Bool} {sn : List Str} {sub : List Value} {ab : Bool} {col : Option Bool} {dd : Option Addr} {k0 k1 k2 k3 k5 : Option Value} {oC oI : Obj} {c0 : Value} {dY : Option Addr} {cdY : ClassData} {slY : Array (Option Value)}
    (F : Fr h₀ L s.heap m) (X₀ : K.In h₀) (N₀ : News h₀ L s.heap news)
    (hC : K.lookup C = some oC) (heC : oC = excClassObj nm q C N bs [.ref Y, .type "Exception", .type "BaseException", .type "object"] hdct sn sub ab col dd k0 k1 k2 k3 k5 "Exception.__new__") (hY : K.lookup Y = some ⟨c0, dY, .cls cdY, slY⟩)
    (okC : nsOkIn K N = true) (okY : nsOkIn K cdY.ns = true) (iC : nsIn K N "__init__" = some (some (.ref fI))) (iY : nsIn K cdY.ns "__init__" = some none) (hI : K.lookup fI = some oI) (cI : oI.cls = .type "function")
    (h : ∀ x t h', Fr h₀ L h' m → News h₀ L h' ((x, excObj C t none) :: (t, tupObj rest) :: news) → (∀ p ∈ news, p.1 < t) → t < x → (∀ p ∈ news, p.1 < x) →
      wpAny (model prog w) (A.under (.builtin "type.__call__" ⟨.ref C :: rest, []⟩)) (call (.ref fI) (.ref x :: rest)) (fun r s' => r = .none ∧ Q (.ref x) s') E { s with heap := h' }) (hrest : rest.length ≤ sizeLine) :
    wpAny (model prog w) A (call (.ref C) rest) Q E s := by
  subst heC
  have X := X₀.keeps F.keep
  obtain ⟨hp, g, d, t, os⟩ := s
  have T : OwnTail hp [.type "Exception", .type "BaseException", .type "object"] [.ref Y, .type "Exception", .type "BaseException", .type "object"] :=
    .own (X _ _ hY) (.of_isNs (isNs_of_in X okY)) (nsMap_none_of_in X okY iY) .base
  have G : hp.Ns N (hp.nsMap N) := .of_isNs (isNs_of_in X okC)
  refine exc_call PySem.F.excBase_Exception T (X _ _ hC) G (ns_some_of X G iC) (X _ _ hI) cI ?_ hrest
  have F₂ := (F.push (tupObj rest)).push (excObj C hp.objs.size none)
  have N₂ := (N₀.push F (tupObj rest)).push (F.push _) (excObj C hp.objs.size none)
  have e : (hp.push (tupObj rest)).objs.size = hp.objs.size + 1 := Heap.size_push _ _
  rw [e] at N₂
  exact h (hp.objs.size + 1) hp.objs.size _ F₂ N₂ (fun p hq => Heap.lt_size (N₀ p hq).1) (Nat.lt_succ_self _) (fun p hq => Nat.lt_succ_of_lt (Heap.lt_size (N₀ p hq).1))

theorem trap_make {prog : Program} {w : World} {A : Around} {E Q : Value → Shared → Prop} {s : Shared} {h₀ : Heap} {L : Addr} {m : Str → Option Value} {news : List (Addr × Obj)} {rest : List Value}
    (F : Fr h₀ L s.heap m) (X₀ : (Mine.hd.heap_39 w.params).In h₀) (N₀ : News h₀ L s.heap news)
    (h : ∀ x t h', Fr h₀ L h' m → News h₀ L h' ((x, excObj 58 t none) :: (t, tupObj rest) :: news) → (∀ p ∈ news, p.1 < t) → t < x → (∀ p ∈ news, p.1 < x) →
      wpAny (model prog w) (A.under (.builtin "type.__call__" ⟨.ref 58 :: rest, []⟩)) (call (.ref 55) (.ref x :: rest)) (fun r s' => r = .none ∧ Q (.ref x) s') E { s with heap := h' }) (hrest : rest.length ≤ sizeLine) :
    wpAny (model prog w) A (call (.ref 58) rest) Q E s := by
  refine' exc_makeK (Y := 38) (N := 57) (fI := 55) F X₀ N₀ ?hC ?heC ?hY ?okC ?okY ?iC ?iY ?hI ?cI h hrest
  case hC => k_is
  case heC => exact rfl
  case hY => k_is
  case okC =>
    refine' nsOk_of (K := Mine.hd.heap_39 w.params) ?a ?b
    case a => k_is
    case b => rfl
  case okY =>
    refine' nsOk_of (K := Mine.hd.heap_39 w.params) ?a ?b
    case a => k_is
    case b => rfl
  case iC => k_is
  case iY => k_is
  case hI => k_is
  case cI => rfl
theorem refuse_trap (self : Value) : refuseLoop self "__setattr__" [.ref 58, .ref 38, .type "Exception", .type "BaseException", .type "object"] = pure () := by
  rw [refuseLoop_ref, refuseLoop_ref]
  exact PySem.F.store_Exception.passes self
end Mine
namespace Mine
abbrev trapMro : List Value := [.ref 58, .ref 38, .type "Exception", .type "BaseException", .type "object"]
abbrev trapData : ClassData := { name := Str.ofString "TrapError", bases := [.ref 38], mro := trapMro, ns := 57, qualname := Str.ofString "TrapError" }
abbrev trapCls : Obj := excClassObj (Str.ofString "TrapError") (Str.ofString "TrapError") 58 57 [.ref 38] [.ref 38, .type "Exception", .type "BaseException", .type "object"] true [] [] false none none (some (.ref 42)) none (some (.str (Str.ofString "TrapError") 227)) (some (.str (Str.ofString "TrapError") 235)) (some (.bool true)) "Exception.__new__"

section
variable {prog : Program} {w : World} {A : Around} {E : Value → Shared → Prop} {s : Shared} {h₀ : Heap} {L x dx t : Addr} {m : Str → Option Value} {news : List (Addr × Obj)} {name : Str} {v : Value} {es : List DictEntry} {n : Nat}
theorem trap_at : (Mine.hd.heap_39 w.params).lookup 58 = some trapCls := by k_is
theorem trap_cls : clsIn (Mine.hd.heap_39 w.params) 58 = some trapData := by
  unfold clsIn
  rw [trap_at]
theorem trap_raise {ex : PySem.Expr} {env : Env} {pos : Pos} {Q : Flow → Shared → Prop} (hh : A.handled = none) (h : wpAny (model prog w) A (eval ex env) (RaiseBack 58 trapCls E) E s) :
    wpAny (model prog w) A (exec (.Raise (some ex) none pos) env) Q E s := Raise_exc trapCls rfl rfl hh h
theorem trap_back (F : Fr h₀ L s.heap m) (X₀ : (Mine.hd.heap_39 w.params).In h₀) (N : News h₀ L s.heap news) {d : Option Addr} (hx : (x, excObj 58 t d) ∈ news) (h : E (.ref x) s) : RaiseBack 58 trapCls E (.ref x) s :=
  ⟨x, t, d, rfl, (X₀.keeps F.keep) _ _ trap_at, (N _ hx).1, h⟩
theorem trap_new {Q : Unit → Shared → Prop} (F : Fr h₀ L s.heap m) (X₀ : (Mine.hd.heap_39 w.params).In h₀) (N : News h₀ L s.heap news)
    (hs : findIn (Mine.hd.heap_39 w.params) (.ref 58) "__setattr__" = some (some (.builtin "object.__setattr__"))) (hob : mroIn (Mine.hd.heap_39 w.params) 58 (.type "object") = some true) (ht : takerIn (Mine.hd.heap_39 w.params) 58 name = some none)
    (U : ∃ news', Upd x (excObj 58 t none) (excObj 58 t none) news news')
    (h : ∀ dx h', Fr h₀ L h' m → (∀ news', Upd x (excObj 58 t none) (excObj 58 t (some dx)) news news' → News h₀ L h' ((dx, dictOf [⟨PyData.keyHash w.params name, .str name (s.toks + 1), v⟩] 1) :: news')) → (∀ p ∈ news, p.1 < dx) → Q () { s with heap := h', toks := s.toks + 2 }) :
    wpAny (model prog w) A (setAttr (.ref x) name v) Q E s :=
  set_excNew F X₀ N hs trap_cls refuse_trap hob ht rfl U h
theorem trap_set {es' : List DictEntry} {n' : Nat} {news' : List (Addr × Obj)} {Q : Unit → Shared → Prop} (F : Fr h₀ L s.heap m) (X₀ : (Mine.hd.heap_39 w.params).In h₀) (N : News h₀ L s.heap news) (hx : (x, excObj 58 t (some dx)) ∈ news) (_hd : (dx, dictOf es n) ∈ news)
    (hs : findIn (Mine.hd.heap_39 w.params) (.ref 58) "__setattr__" = some (some (.builtin "object.__setattr__"))) (hob : mroIn (Mine.hd.heap_39 w.params) 58 (.type "object") = some true) (ht : takerIn (Mine.hd.heap_39 w.params) 58 name = some none)
    (hl : (getL name es).isSome = true) (e : (putL name (PyData.keyHash w.params name) (.str name (s.toks + 1)) v es, putN name es n) = (es', n')) (U : Upd dx (dictOf es n) (dictOf es' n') news news') (hz : es'.length ≤ 1000)
    (h : ∀ h', Fr h₀ L h' m → News h₀ L h' news' → Q () { s with heap := h', toks := s.toks + 2 }) :
    wpAny (model prog w) A (setAttr (.ref x) name v) Q E s :=
  set_excHas F X₀ N hx hs trap_cls refuse_trap hob ht rfl hl e U hz h
theorem trap_get {expr : Bool} {Q : Value → Shared → Prop} {ws : Array Value} {sl : Array (Option Value)} {attr : Option Value} (F : Fr h₀ L s.heap m) (X₀ : (Mine.hd.heap_39 w.params).In h₀) (N : News h₀ L s.heap news) (hx : (x, (⟨.ref 58, some dx, .fields ws, sl⟩ : Obj)) ∈ news) (hd : (dx, dictOf es n) ∈ news)
    (hga : findIn (Mine.hd.heap_39 w.params) (.ref 58) "__getattribute__" = some (some (.builtin "BaseException.__getattribute__"))) (hgt : findIn (Mine.hd.heap_39 w.params) (.ref 58) "__getattr__" = some none) (hb : mroIn (Mine.hd.heap_39 w.params) 58 (.type "BaseException") = some true)
    (ha : findIn (Mine.hd.heap_39 w.params) (.ref 58) name = some attr) (hn : noGet (Mine.hd.heap_39 w.params) attr = true) (hl : getL name es = some (some v)) (hv : handedIn v = true) (h : Q v { s with toks := s.toks + 1 }) :
    wpAny (model prog w) A (getAttr (.ref x) name expr) Q E s :=
  get_exc (od := some (dictOf es n)) ga_Exception (X₀.keeps F.keep) ⟨(N _ hx).1, rfl, rfl, (N _ hd).1⟩ hga hgt hb (findObj_own (by unfold hasDictIn; rw [trap_cls]; rfl) ha hn hl) hv h
end

inductive Drop (e : Addr) : List (Addr × Obj) → List (Addr × Obj) → Prop
  | nil : Drop e [] []
  | all {r : List (Addr × Obj)} : (∀ p ∈ r, p.1 ≠ e) → Drop e r r
  | skip {o : Obj} {r r' : List (Addr × Obj)} : Drop e r r' → Drop e ((e, o) :: r) r'
  | keep {p : Addr × Obj} {r r' : List (Addr × Obj)} : p.1 ≠ e → Drop e r r' → Drop e (p :: r) (p :: r')
theorem Drop.out {e : Addr} {l l' : List (Addr × Obj)} (d : Drop e l l') : ∀ q ∈ l', q ∈ l ∧ q.1 ≠ e := by
  induction d with
  | nil => intro q hq; cases hq
  | all h => exact fun q hq => ⟨hq, h q hq⟩
  | skip _ ih => exact fun q hq => ⟨.tail _ (ih q hq).1, (ih q hq).2⟩
  | keep h _ ih =>
    intro q hq
    rcases List.mem_cons.mp hq with rfl | hq
    · exact ⟨.head _, h⟩
    · exact ⟨.tail _ (ih q hq).1, (ih q hq).2⟩

section
variable {M : Model} {A : Around} {E : Value → Shared → Prop} {s' : Shared} {base g : Heap} {outer : List Env} {L a e t dx : Addr} {m : Str → Option Value} {name : Str} {scope : Scope} {cd : Value} {Q : Unit → Shared → Prop} {news news' : List (Addr × Obj)}
theorem trap_leave (K : Below A base outer g) (F : Fr g L s'.heap m) (N : News g L s'.heap news) (he : (e, excObj 58 t (some dx)) ∈ news) (hs : Drop e news news')
    (hQ : ∀ h', RaisedE base outer e 58 dx news' h' → g.UpToSlots h' → Q () { s' with heap := h' }) (hk : scope.kind = .function := by rfl) :
    wpAny M (A.deeper (envOf name scope L a cd)) (leaving (envOf name scope L a cd) (.ref e)) Q E s' := leave_exc K F N he hs.out hQ hk
end
section
variable {prog : Program} {w : World} {A₀ : Around} {E : Value → Shared → Prop} {s' : Shared} {h₀ h : Heap} {outer : List Env} {L a e dx : Addr} {m : Str → Option Value} {name : Str} {scope : Scope} {cd : Value}
  {n : Str} {b₀ : Stmt} {suite : List Stmt} {pos np : Pos} {rest : List ExceptHandler} {Q : Flow → Shared → Prop} {news : List (Addr × Obj)}
  {p : Program} {loose : List Str} {mg mb : Str → Option Value}
theorem trap_caught (K : Below A₀ h₀ outer h₀) (F : Fr h₀ L h m) (hsm : h.UpToSlots s'.heap) (R : RaisedE h₀ (envOf name scope L a cd :: outer) e 58 dx news s'.heap)
    (X : (Mine.hd.heap_39 w.params).In h₀) (T : TopRead p loose mg mb h₀)
    (k : ∀ h' tk ws sl, Fr h₀ L h' (fun y => if y = n then some (.ref e) else m y) → News h₀ L h' ((e, (⟨.ref 58, some dx, .fields ws, sl⟩ : Obj)) :: news) →
      wpAny (model prog w) ((A₀.deeper (envOf name scope L a cd)).mark (some (.ref e))) (execs (b₀ :: suite) (envOf name scope L a cd))
        (fun f s₄ => wpAny (model prog w) (A₀.deeper (envOf name scope L a cd)) (do bindName (envOf name scope L a cd) n .none; unbindBehindTheSuite (envOf name scope L a cd) n pos) (fun _ s₅ => Q f s₅) E s₄)
        (AsSuiteRaised (model prog w) ((A₀.deeper (envOf name scope L a cd)).mark (some (.ref e))) (envOf name scope L a cd) n pos (notedBy (model prog w) ((A₀.deeper (envOf name scope L a cd)).mark (some (.ref e))) (envOf name scope L a cd) (cameBackBy (model prog w) (A₀.deeper (envOf name scope L a cd)) (envOf name scope L a cd) E)))
        { s' with heap := h', toks := tk })
    (ex : nsIn (Mine.hd.heap_39 w.params) mainGlobals (Str.ofString "TrapError") = some (some (.ref 58)))
    (hk : scope.kind = .function := by rfl) (hlo : (envOf name scope L a cd).kindOf n = some .local := by rfl) (hx : (envOf name scope L a cd).kindOf (Str.ofString "TrapError") = some .globalImplicit := by rfl) :
    wpAny (model prog w) (A₀.deeper (envOf name scope L a cd)) (noteFrame (.ref e) (envOf name scope L a cd))
      (fun _ s₂ => wpAny (model prog w) (A₀.deeper (envOf name scope L a cd)) (setFlight (.ref e) none) (fun _ s₃ =>
        wpAny (model prog w) (A₀.deeper (envOf name scope L a cd)) (handleBy (.ref e) (envOf name scope L a cd) (.ExceptHandler (some (.Name (Str.ofString "TrapError") np)) (some n) (b₀ :: suite) pos :: rest)) Q E s₃) E s₂) E s' :=
  caught_exc K F hsm R X T ex trap_at rfl k hk hlo hx (by decide)
end
end Mine
namespace Mine
@[irreducible] def r16 (x : Int) : Int := (x + 15).fdiv 16 * 16
theorem r16_def (x : Int) : r16 x = (x + 15).fdiv 16 * 16 := by unfold r16; rfl
theorem r16_spec (x : Int) : ∃ q, r16 x = 16 * q ∧ x ≤ r16 x ∧ r16 x < x + 16 := by
  rw [r16_def, Int.fdiv_eq_ediv_of_nonneg _ (by decide)]
  exact ⟨(x + 15) / 16, by omega, by omega, by omega⟩
theorem r16_other (x : Int) : (x + 16 - 1).fdiv 16 * 16 = r16 x := by
  rw [r16_def, show x + 16 - 1 = x + 15 from by omega]

theorem news_two {h₀ h : Heap} {L : Addr} {big own : List (Addr × Obj)} {p1 p2 : Addr × Obj} (N : News h₀ L h big) (m1 : p1 ∈ big) (m2 : p2 ∈ big) (m3 : ∀ p ∈ own, p ∈ big) : News h₀ L h (p1 :: p2 :: own) := fun p hp => by
  rcases List.mem_cons.mp hp with rfl | hp
  · exact N _ m1
  · rcases List.mem_cons.mp hp with rfl | hp
    · exact N _ m2
    · exact N _ (m3 p hp)
theorem lt_all {own : List (Addr × Obj)} {d x : Addr} (h1 : ∀ p ∈ own, p.1 < d) (h2 : @LT.lt Nat _ d x) : ∀ p ∈ own, p.1 < x := fun p hp => Nat.lt_trans (h1 p hp) h2
theorem round_walk {w : World} {mean : ExcName → Option Value} {mg mb : Str → Option Value} {A A₀ : Around} {env : Env} {outer : List Env} {base h₀ : Heap} {L : Addr} {m : Str → Option Value} {s : Shared}
    {x : Int} {t : Tok} {own : List (Addr × Obj)} {Q E : Value → Shared → Prop}
    (B : Below A₀ base outer h₀) (F : Fr h₀ L s.heap m) (X : (Mine.hd.heap_39 w.params).In h₀) (N : News h₀ L s.heap own)
    (T : Top Mine.hd.view_39 (looseW Mine.hd.view_39 []) mean mg mb h₀) (hA : A.frames = some (env :: outer)) (hf : env.frame = some L) (hk : env.scope.kind = .function) (hroom : A.in1.depth < recursionLimit)
    (ret : ∀ v q t h' tk', v = r16 x → v = 16 * q → x ≤ v → v < x + 16 → Fr h₀ L h' m → News h₀ L h' own → Q (.int v t) { s with heap := h', toks := tk' }) :
    wpAny (model PR w) A (call (.ref 277) [.int x t]) Q E s := by
  refine wpAny_call ?_
  k_dflt (refine' code_def ?k1 ?k2 ?k3 ?k4 ?k5 ?kA ?kF ?kK ?k6 ?k7 ?k8 ?k9 ?kB ?_ ?c2 ?c3 ?c4 ?c5; (case kA => exact hA); (case kF => exact hf); (case kK => exact hk); (case k1 => exact B); (case k2 => exact F); (case k3 => exact X); (case k4 => exact N); (case k5 => exact T); (case k6 => k_is); (case k7 => k_is); (case k8 => exact hroom); (case k9 => exact BindsTo.of_eq rfl); (case c5 => decide); (case kB => exact locs rfl); (case c2 => exact rfl); (case c3 => exact rfl); (case c4 => exact rfl); k_whole; intro g' L' h' FG' F' N' B' X' T'; (try dsimp only); (try k_fold))
  k_steps
  rename_i kF kN _
  obtain ⟨q, h1, h2, h3⟩ := r16_spec x
  rw [← r16_other] at h1 h2 h3
  exact ret _ q _ _ _ (r16_other x) h1 h2 h3 (by assumption) (by assumption)
end Mine
namespace Mine
structure ORest where
  (k0 k1 k2 k3 k4 k5 k6 k7 k8 k9 k10 k11 k12 : Nat)
  (v1 v2 v3 v5 v6 v7 v8 v9 v10 v11 v12 : Value)
abbrev oEs (w : World) (nmv sz : Value) (r : ORest) : List DictEntry :=
  [⟨PyData.keyHash w.params (Str.ofString "name"), .str (Str.ofString "name") r.k0, nmv⟩,
   ⟨PyData.keyHash w.params (Str.ofString "key"), .str (Str.ofString "key") r.k1, r.v1⟩,
   ⟨PyData.keyHash w.params (Str.ofString "imports"), .str (Str.ofString "imports") r.k2, r.v2⟩,
   ⟨PyData.keyHash w.params (Str.ofString "rows"), .str (Str.ofString "rows") r.k3, r.v3⟩,
   ⟨PyData.keyHash w.params (Str.ofString "data_size"), .str (Str.ofString "data_size") r.k4, sz⟩,
   ⟨PyData.keyHash w.params (Str.ofString "words"), .str (Str.ofString "words") r.k5, r.v5⟩,
   ⟨PyData.keyHash w.params (Str.ofString "data_fixups"), .str (Str.ofString "data_fixups") r.k6, r.v6⟩,
   ⟨PyData.keyHash w.params (Str.ofString "fixups"), .str (Str.ofString "fixups") r.k7, r.v7⟩,
   ⟨PyData.keyHash w.params (Str.ofString "entries"), .str (Str.ofString "entries") r.k8, r.v8⟩,
   ⟨PyData.keyHash w.params (Str.ofString "pointers"), .str (Str.ofString "pointers") r.k9, r.v9⟩,
   ⟨PyData.keyHash w.params (Str.ofString "maps"), .str (Str.ofString "maps") r.k10, r.v10⟩,
   ⟨PyData.keyHash w.params (Str.ofString "commands"), .str (Str.ofString "commands") r.k11, r.v11⟩,
   ⟨PyData.keyHash w.params (Str.ofString "body"), .str (Str.ofString "body") r.k12, r.v12⟩]

theorem obj_call {w : World} {mean : ExcName → Option Value} {mg mb : Str → Option Value} {cn : Str} {nms : List (Str × NameKind)} {ig ic : Bool} {more : List (Str × Const)} {a : Addr} {ccd : Value} {base h₀ : Heap} {L : Addr} {m : Str → Option Value} {s : Shared}
    {nm : Str} {t u : Tok} {own : List (Addr × Obj)} {Q E : Value → Shared → Prop}
    (B : Below callerA base [] h₀) (F : Fr h₀ L s.heap m) (X : (Mine.hd.heap_39 w.params).In h₀) (N : News h₀ L s.heap own)
    (T : Top Mine.hd.view_39 (looseW Mine.hd.view_39 []) mean mg mb h₀)
    (ret : ∀ x dx r t0 h' tk', Fr h₀ L h' m → News h₀ L h' ((x, instObj 379 dx) :: (dx, dictOf (oEs w (.str nm t) (.int 0 t0) r) 13) :: own) → (∀ p ∈ own, p.1 < dx) → dx < x → (∀ p ∈ own, p.1 < x) → Q (.ref x) { s with heap := h', toks := tk' }) :
    wpAny (model PR w) (callerA.deeper (envOf cn ⟨.function, nms, ig, ic, more⟩ L a ccd)) (call (.ref 379) [.str nm t, .int 1 u]) Q E s := by
  have kM := kstMark
  k_steps
  refine' ret _ _ ⟨_, _, _, _, _, _, _, _, _, _, _, _, _, _, _, _, _, _, _, _, _, _, _, _⟩ _ _ _ ?kF (news_two ?kN ?m1 ?m2 ?m3) ?l1 ?l2 ?l3
  case kF => assumption
  case kN => assumption
  case m1 => k_mem
  case m2 => k_mem
  case m3 =>
    intro p hp
    repeat (first | exact hp | refine List.Mem.tail _ ?_)
  case l1 => assumption
  case l2 => assumption
  case l3 => exact lt_all (by assumption) (by assumption)
end Mine
namespace Mine
local macro_rules | `(tactic| walk_at "call ref") => `(tactic| (k_here; (with_reducible show wpAny _ _ (call (Value.ref 277) _) _ _ _); k_dflt (refine' Mine.round_walk ?B ?F ?X ?N ?T ?hA ?hf ?hk ?hroom ?_; (case B => k_asm); (case F => k_asm); (case X => k_asm); (case N => k_asm); (case T => k_asm); (case hA => exact rfl); (case hf => exact rfl); (case hk => exact rfl); (case hroom => k_room)); (intro v9 q9 t9 h' tk' e1 e2 e3 e4 F' N'; (try k_sweep))))
local macro_rules | `(tactic| walk_at "ite") => `(tactic| (k_here; k_dflt (first | refine ite_pos (by ((try simp only [decide_eq_true_eq]); omega)) ?_ | refine ite_neg (by ((try simp only [decide_eq_true_eq]); omega)) ?_)))
structure MRest where
  (k0 k1 k2 k3 k4 k5 k6 k7 k8 k9 k10 k11 : Nat)
  (v2 v3 v4 v5 v6 v7 v8 v9 v10 v11 : Value)
abbrev mEs (w : World) (top lim : Value) (r : MRest) : List DictEntry :=
  [⟨PyData.keyHash w.params (Str.ofString "data_top"), .str (Str.ofString "data_top") r.k0, top⟩,
   ⟨PyData.keyHash w.params (Str.ofString "data_limit"), .str (Str.ofString "data_limit") r.k1, lim⟩,
   ⟨PyData.keyHash w.params (Str.ofString "stack_low"), .str (Str.ofString "stack_low") r.k2, r.v2⟩,
   ⟨PyData.keyHash w.params (Str.ofString "memory"), .str (Str.ofString "memory") r.k3, r.v3⟩,
   ⟨PyData.keyHash w.params (Str.ofString "heap"), .str (Str.ofString "heap") r.k4, r.v4⟩,
   ⟨PyData.keyHash w.params (Str.ofString "cpu"), .str (Str.ofString "cpu") r.k5, r.v5⟩,
   ⟨PyData.keyHash w.params (Str.ofString "loaded"), .str (Str.ofString "loaded") r.k6, r.v6⟩,
   ⟨PyData.keyHash w.params (Str.ofString "gone"), .str (Str.ofString "gone") r.k7, r.v7⟩,
   ⟨PyData.keyHash w.params (Str.ofString "out"), .str (Str.ofString "out") r.k8, r.v8⟩,
   ⟨PyData.keyHash w.params (Str.ofString "given"), .str (Str.ofString "given") r.k9, r.v9⟩,
   ⟨PyData.keyHash w.params (Str.ofString "limit"), .str (Str.ofString "limit") r.k10, r.v10⟩,
   ⟨PyData.keyHash w.params (Str.ofString "steps"), .str (Str.ofString "steps") r.k11, r.v11⟩]

theorem mach_call {w : World} {mean : ExcName → Option Value} {mg mb : Str → Option Value} {cn : Str} {nms : List (Str × NameKind)} {ig ic : Bool} {more : List (Str × Const)} {a : Addr} {ccd : Value} {base h₀ : Heap} {L : Addr} {m : Str → Option Value} {s : Shared}
    {t1 t2 t3 t4 : Tok} {due : Int} {own : List (Addr × Obj)} {Q E : Value → Shared → Prop}
    (B : Below callerA base [] h₀) (F : Fr h₀ L s.heap m) (X : (Mine.hd.heap_39 w.params).In h₀) (N : News h₀ L s.heap own)
    (T : Top Mine.hd.view_39 (looseW Mine.hd.view_39 []) mean mg mb h₀)
    (d0 : 4096 ≤ due) (d1 : due ≤ 40000) (d2 : due % 16 = 0)
    (ret : ∀ x dx r z0 z1 h' tk', Fr h₀ L h' m → News h₀ L h' ((x, instObj 358 dx) :: (dx, dictOf (mEs w (.int 64 z0) (.int (64 + due) z1) r) 12) :: own) → (∀ p ∈ own, p.1 < dx) → dx < x → (∀ p ∈ own, p.1 < x) → Q (.ref x) { s with heap := h', toks := tk' }) :
    wpAny (model PR w) (callerA.deeper (envOf cn ⟨.function, nms, ig, ic, more⟩ L a ccd)) (call (.ref 358) [.int 64 t1, .int 64 t2, .int 100 t3, .int due t4]) Q E s := by
  have kM := kstMark
  k_steps
  rename_i kF kN _
  refine' ret _ _ ⟨_, _, _, _, _, _, _, _, _, _, _, _, _, _, _, _, _, _, _, _, _, _⟩ _ _ _ _ ?kF (news_two ?kN ?m1 ?m2 ?m3) ?l1 ?l2 ?l3
  case kF => assumption
  case kN => assumption
  case m1 => k_mem
  case m2 => 
    have hv : ∀ v : Int, due ≤ v → v < due + 16 → (∃ q, v = 16 * q) → 64 + due = 64 + v := fun v h1 h2 h3 => by obtain ⟨q, h3⟩ := h3; omega
    rw [hv _ (by assumption) (by assumption) ⟨_, by assumption⟩]
    k_mem
  case m3 =>
    intro p hp
    repeat (first | exact hp | refine List.Mem.tail _ ?_)
  case l1 => assumption
  case l2 => assumption
  case l3 => exact lt_all (by assumption) (by assumption)
end Mine
namespace Mine
theorem frame_self {ps : List (Str × Value)} {m : Str → Option Value} (h : ∀ p ∈ ps, m p.1 = some p.2) : m = kstB m ps := by
  funext y
  exact (kstB_eq h fun _ => rfl).symm
section
variable {prog : Program} {w : World} {A : Around} {E : Value → Shared → Prop} {s : Shared} {env : Env} {h₀ : Heap} {body : List Stmt} {Q : Flow → Shared → Prop}

theorem unrW_mono {L : Addr} {s₁ : Shared} {its : List (Addr × Obj)} {R R' : (Str → Option Value) → List (Addr × Obj) → Prop} {f : Flow} {s₂ : Shared} (hR : ∀ m n, R m n → R' m n) (h : UnrPostW h₀ L s₁ its R Q f s₂) : UnrPostW h₀ L s₁ its R' Q f s₂ := by
  have up : UnrEndW h₀ L s₁ its R s₂ → UnrEndW h₀ L s₁ its R' s₂ := fun ⟨h', tk, m', n', e, F, N, o, r⟩ => ⟨h', tk, m', n', e, F, N, o, hR _ _ r⟩
  cases f with
  | ret v => exact h
  | brk => exact h
  | next => exact up h
  | cont => exact up h

theorem items_ind {δ : Type} {target : PySem.Expr} {I : Addr} {c : String} {keep : List (Addr × Obj)} (f : δ → PySem.W.Itm) (J : List δ → (Str → Option Value) → List (Addr × Obj) → Prop)
    (zero : ∀ m news, J [] m news → ∀ h tk, Fr h₀ env.locals h m → News h₀ env.locals h news → Q .next { s with heap := h, toks := tk })
    (turn : ∀ i r m news, J (i :: r) m news → ∀ v h tk o, (f i).Is v h → o.cls = .type c → Fr h₀ env.locals h m → News h₀ env.locals h ((I, o) :: news) →
      wpAny (model prog w) A (assign target env v) (fun _ s₂ => wpAny (model prog w) A (execs body env) (UnrPostW h₀ env.locals { s with heap := h, toks := tk } [(I, o)] (fun m' n' => SubL keep n' ∧ J r m' n') Q) E s₂) E { s with heap := h, toks := tk }) :
    ∀ (r : List δ) m news, J r m news → ItemsRest prog w A E h₀ env target body Q s [(I, c)] keep (r.map f) m news
  | [], m, news, hj => zero m news hj
  | i :: r, m, news, hj => by
    intro v h tk hv F o ho N
    refine wpAny_mono (turn i r m news hj v h tk o hv ho F N) (fun _ s₂ p => ?_) fun _ _ x => x
    refine wpAny_mono p (fun fl s₃ q => ?_) fun _ _ x => x
    exact unrW_mono (fun m' n' x => ⟨x.1, items_ind f J zero turn r m' n' x.2⟩) q

theorem unr_mono {L : Addr} {s₁ : Shared} {I : Addr} {it : Obj} {R R' : (Str → Option Value) → List (Addr × Obj) → Prop} {f : Flow} {s₂ : Shared} (hR : ∀ m n, R m n → R' m n) (h : UnrPost h₀ L s₁ I it R Q f s₂) : UnrPost h₀ L s₁ I it R' Q f s₂ := by
  have up : UnrEnd h₀ L s₁ I it R s₂ → UnrEnd h₀ L s₁ I it R' s₂ := fun ⟨h', tk, m', n', e, F, N, o, r⟩ => ⟨h', tk, m', n', e, F, N, o, hR _ _ r⟩
  cases f with
  | ret v => exact h
  | brk => exact h
  | next => exact up h
  | cont => exact up h

theorem range_ind {x : Str} {I : Addr} {a : Int} {n : Nat} (J : Nat → (Str → Option Value) → List (Addr × Obj) → Prop)
    (done : ∀ m news, J n m news → ∀ h tk, Fr h₀ env.locals h m → News h₀ env.locals h news → Q .next { s with heap := h, toks := tk })
    (turn : ∀ i m news, i < n → J i m news → ∀ t h tk, Fr h₀ env.locals h (fun y => if y = x then some (.int (a + (i : Int)) t) else m y) →
      News h₀ env.locals h ((I, itR (a + ((i + 1 : Nat) : Int)) ((n : Int) - ((i + 1 : Nat) : Int))) :: news) →
      wpAny (model prog w) A (execs body env) (UnrPost h₀ env.locals { s with heap := h, toks := tk } I (itR (a + ((i + 1 : Nat) : Int)) ((n : Int) - ((i + 1 : Nat) : Int))) (J (i + 1)) Q) E { s with heap := h, toks := tk }) :
    ∀ (k i : Nat) m news, i + k = n → J i m news → RangeRest prog w A E h₀ env x body Q s I a n k i m news
  | 0, i, m, news, e, hj => RangeRest.zero (done m news (by rw [show n = i from by omega]; exact hj))
  | k + 1, i, m, news, e, hj => RangeRest.succ fun t h tk F N =>
    wpAny_mono (turn i m news (by omega) hj t h tk F N) (fun _ _ q => unr_mono (fun m' n' x => range_ind J done turn k (i + 1) m' n' (by omega) x) q) fun _ _ x => x
end
end Mine
namespace Mine
local macro_rules | `(tactic| k_mem) => `(tactic| assumption)
local macro_rules | `(tactic| k_get) => `(tactic| with_reducible assumption)
local macro_rules | `(tactic| walk_at "subscriptTail") => `(tactic| (k_here; (with_reducible show wpAny _ _ (subscriptTail _ _ (Value.ref _) (Value.str _ _)) _ _ _); k_dflt (refine' kda_item (knd := PySem.strKind _ _) ?N ?m ?d (strKind_is _ _ _ _) ?l ?_; (case N => k_asm); (case m => k_mem); (case d => k_asm); (case l => k_asm))))
structure ObjRec where
  (x dx : Addr)
  (es : List DictEntry)
  (n : Nat)
  (key : Str)
  (v : Int)
  (tv : Nat)
abbrev ObjRec.kv (i : ObjRec) : Str × Value := (i.key, .ref i.x)
def ObjRec.Ok (news : List (Addr × Obj)) (i : ObjRec) : Prop :=
  (i.x, instObj 379 i.dx) ∈ news ∧ (i.dx, dictOf i.es i.n) ∈ news ∧ getL (Str.ofString "data_size") i.es = some (some (.int i.v i.tv)) ∧ 0 ≤ i.v ∧ i.v ≤ 5001
def sum16 (its : List ObjRec) : Int := (its.map fun i => r16 i.v).sum

theorem room_call {w : World} {mean : ExcName → Option Value} {mg mb : Str → Option Value} {cn : Str} {nms : List (Str × NameKind)} {ig ic : Bool} {more : List (Str × Const)} {a : Addr} {ccd : Value} {base h₀ : Heap} {L : Addr} {m : Str → Option Value} {s : Shared}
    {O : Addr} {o : Obj} {its : List ObjRec} {own : List (Addr × Obj)} {Q E : Value → Shared → Prop}
    (B : Below callerA base [] h₀) (F : Fr h₀ L s.heap m) (X : (Mine.hd.heap_39 w.params).In h₀) (N : News h₀ L s.heap ((O, o) :: own))
    (T : Top Mine.hd.view_39 (looseW Mine.hd.view_39 []) mean mg mb h₀)
    (lo : (O == sysModules) = false) (hd : Obj.IsDictOf (PySem.strKind PR w) o (its.map ObjRec.kv)) (hi : ∀ i ∈ its, i.Ok own) (hl : its.length ≤ 6)
    (ret : ∀ t h' tk', Fr h₀ L h' m → News h₀ L h' ((O, o) :: own) → Q (.int (max 4096 (sum16 its)) t) { s with heap := h', toks := tk' }) :
    wpAny (model PR w) (callerA.deeper (envOf cn ⟨.function, nms, ig, ic, more⟩ L a ccd)) (call (.ref 28) [.ref O]) Q E s := by
  have kM := kstMark
  have hnd : ((its.map ObjRec.kv).map (·.1)).Nodup := by
    obtain ⟨es, ep, _, _, _, _, hn⟩ := hd
    exact hn
  have hval : ∀ i ∈ its, valueAt (its.map ObjRec.kv) i.key = some (.ref i.x) := fun i hm => by
    obtain ⟨j, hj, e⟩ := List.getElem_of_mem hm
    refine valueAt_of_get hnd (i := j) ?_
    rw [List.getElem?_map, List.getElem?_eq_getElem hj, e]
    rfl
  k_steps
  rename Fr _ _ _ _ => lF'
  rename News _ _ _ _ => lN'
  with_unfolding_all refine' For_turns lF' ?_
  k_dflt (refine ld lF' (by rfl) ?_)
  with_unfolding_all refine kta_keys (knd := PySem.strKind _ _) (enc := PyData.str) (xs := its.map fun i => PySem.W.Itm.tok (fun t => Value.str i.key t)) (by rfl) lF' lN' (by k_mem) (by k_asm) (by k_asm) (fun _ _ h => Value.isStrOf_shape h) (by rw [List.map_map]; rfl) ?_
  intro I l1
  refine items_ind (fun i : ObjRec => PySem.W.Itm.tok (fun t => Value.str i.key t)) (fun r m news => ∃ acc t u, m = kstB u [(Str.ofString "objects", .ref O), (Str.ofString "room", .int acc t)] ∧ news = (O, o) :: own ∧ (∀ i ∈ r, i ∈ its) ∧ acc + sum16 r = sum16 its) ?_ ?_ its _ _ ?_
  · rintro m₁ news₁ ⟨acc, t1, u1, rfl, rfl, hin, hsum⟩ h₁ tk₁ F₁ N₁
    have hacc : acc = sum16 its := by
      have h0 : sum16 [] = 0 := rfl
      omega
    clear lF' lN'
    try dsimp only
    k_steps
    have e : (if acc > 4096 then acc else 4096) = max 4096 (sum16 its) := by
      rw [hacc]
      omega
    rw [e]
    exact ret _ _ _ (by assumption) (by assumption)
  · rintro ⟨ix, idx, ies, inn, ikey, iv, itv⟩ r m₁ news₁ ⟨acc, t1, u1, rfl, rfl, hin, hsum⟩ v₁ h₁ tk₁ o₁ ⟨t2, rfl⟩ ho₁ F₁ N₁
    have hi0 := hin _ (.head _)
    have hv₁ : valueAt (its.map ObjRec.kv) ikey = some (.ref ix) := hval _ hi0
    obtain ⟨hx₁, hdx₁, hg₁, hb0, hb1⟩ := hi _ hi0
    dsimp only at hx₁ hdx₁ hg₁ hb0 hb1
    clear lF' lN'
    try dsimp only
    try k_fold
    k_steps
    refine' ⟨_, _, _, (O, o) :: own, rfl, ?F, ?N, ?off, ⟨List.Mem.head _, trivial⟩, acc + (iv + 15).fdiv 16 * 16, _, _, frame_self ?fs, rfl, fun i h => hin i (.tail _ h), ?_⟩
    case F => assumption
    case N => assumption
    case off =>
      intro p hp q hq
      rw [List.mem_singleton.mp hq]
      exact Nat.ne_of_lt (l1 p hp)
    case fs => with_unfolding_all kst_all
    have e : sum16 (ObjRec.mk ix idx ies inn ikey iv itv :: r) = r16 iv + sum16 r := rfl
    rw [e, r16_def] at hsum
    omega
  · refine ⟨0, _, _, frame_self (by with_unfolding_all kst_all), rfl, fun _ h => h, by omega⟩
end Mine
namespace Mine
structure Mark : Prop where
  mk ::
def Stop (P : Prop) : Prop := P
theorem stop_here {P : Prop} (h : Stop P) : P := h
abbrev names1 (S O D : Addr) (z : Int) (t : Tok) : List (Str × Value) :=
  [(Str.ofString "state", .ref D), (Str.ofString "objects", .ref O), (Str.ofString "sizes", .ref S), (Str.ofString "whole_sum", .int z t)]
abbrev led1 (S O D R : Addr) (us vs : List Value) (cS nD nR : Nat) (o : Obj) (k : Int) (t : Tok) (own : List (Addr × Obj)) : List (Addr × Obj) :=
  (S, listOf us.toArray cS) :: (O, o) :: (D, listOf #[.ref R, .int k t] nD) :: (R, listOf vs.toArray nR) :: own
structure LoopOk (prog : Program) (w : World) (keyAt : Nat → Str) (S O D R I : Addr) (i : Nat) (its : List ObjRec) (o : Obj) (us : List Value) (own : List (Addr × Obj)) : Prop where
  off : OwnOff own [I, S, O, D, R]
  dict : Obj.IsDictOf (PySem.strKind prog w) o (its.map ObjRec.kv)
  len : its.length = i
  keys : its.map (·.key) = (List.range i).map keyAt
  ok : ∀ it ∈ its, it.Ok own
  isInts : IntsAre us (its.map (·.v))
def LoopJ (prog : Program) (w : World) (keyAt : Nat → Str) (S O D R I : Addr) (vs : List Value) (nD nR : Nat) (i : Nat) (m : Str → Option Value) (news : List (Addr × Obj)) : Prop :=
  ∃ (its : List ObjRec) (o : Obj) (us : List Value) (own : List (Addr × Obj)) (t1 t2 : Tok) (u : Str → Option Value) (cS : Nat),
    m = kstB u (names1 S O D (sum16 its) t2) ∧ news = led1 S O D R us vs cS nD nR o (1 + (i : Int)) t1 own ∧ LoopOk prog w keyAt S O D R I i its o us own

section
variable {prog : Program} {w : World} {A : Around} {E : Value → Shared → Prop} {s : Shared} {env : Env} {h₀ : Heap} {x : Str} {body : List Stmt} {Q : Flow → Shared → Prop}
theorem loop1 (keyAt : Nat → Str) {S O D R r : Addr} {b : Int} {t₀ u₀ v₀ tk₀ tw : Tok} {vs : List Value} {nD nR : Nat} {o₀ : Obj} {m₀ : Str → Option Value}
    (hh : A.handled = none) (hr : IsRange s.heap r 0 b 1 t₀ u₀ v₀) (hb0 : 0 ≤ b) (hb6 : b ≤ 6) (F : Fr h₀ env.locals s.heap m₀) (N : News h₀ env.locals s.heap (led1 S O D R [] vs 0 nD nR o₀ 1 tk₀ []))
    (hd : Obj.IsDictOf (PySem.strKind prog w) o₀ []) (fm : ∀ p ∈ names1 S O D 0 tw, m₀ p.1 = some p.2)
    (turn : ∀ (I : Addr) (it : Obj) (i : Nat) (its : List ObjRec) (o : Obj) (us : List Value) (own : List (Addr × Obj)) (t1 t2 t : Tok) (u : Str → Option Value) (cS : Nat) (h : Heap) (tk : Nat), i < 6 →
      (@LT.lt Nat _ S I ∧ @LT.lt Nat _ O I ∧ @LT.lt Nat _ D I ∧ @LT.lt Nat _ R I) → LoopOk prog w keyAt S O D R I i its o us own →
      Fr h₀ env.locals h (fun y => if y = x then some (.int (0 + (i : Int)) t) else kstB u (names1 S O D (sum16 its) t2) y) →
      News h₀ env.locals h ((I, it) :: led1 S O D R us vs cS nD nR o (1 + (i : Int)) t1 own) →
      wpAny (model prog w) A (execs body env) (UnrPost h₀ env.locals { s with heap := h, toks := tk } I it (LoopJ prog w keyAt S O D R I vs nD nR (i + 1)) Q) E { s with heap := h, toks := tk })
    (done : ∀ (I : Addr) (its : List ObjRec) (o : Obj) (us : List Value) (own : List (Addr × Obj)) (t1 t2 : Tok) (u : Str → Option Value) (cS : Nat) (h : Heap) (tk : Nat), LoopOk prog w keyAt S O D R I b.toNat its o us own →
      Fr h₀ env.locals h (kstB u (names1 S O D (sum16 its) t2)) → News h₀ env.locals h (led1 S O D R us vs cS nD nR o (1 + (b.toNat : Int)) t1 own) → Q .next { s with heap := h, toks := tk }) :
    wpAny (model prog w) A (pyIter (.ref r)) (fun it s₂ => LoopAtV prog w A h₀ env x body Q E it s₂) E s := by
  have e : b = (b.toNat : Int) := by omega
  refine iter_rangeUnr (n := b.toNat) hh hr (small_one (by omega) (by omega) (by omega) (by omega)) (by rw [e]; exact rangeSize_nat _ _) F N fun I hI => ?_
  have hS : @LT.lt Nat _ S I := hI (S, _) (.head _)
  have hO : @LT.lt Nat _ O I := hI (O, _) (.tail _ (.head _))
  have hD : @LT.lt Nat _ D I := hI (D, _) (.tail _ (.tail _ (.head _)))
  have hR : @LT.lt Nat _ R I := hI (R, _) (.tail _ (.tail _ (.tail _ (.head _))))
  refine range_ind (LoopJ prog w keyAt S O D R I vs nD nR) ?_ ?_ b.toNat 0 m₀ _ (by omega) ?_
  · rintro m news ⟨its, o, us, own, t1, t2, u, cS, rfl, rfl, ok⟩ h tk F N
    exact done I its o us own t1 t2 u cS h tk ok F N
  · rintro i m news hi ⟨its, o, us, own, t1, t2, u, cS, rfl, rfl, ok⟩ t h tk F N
    exact turn I _ i its o us own t1 t2 t u cS h tk (by omega) ⟨hS, hO, hD, hR⟩ ok F N
  · exact ⟨[], o₀, [], [], tk₀, tw, m₀, 0, frame_self fm, rfl, ⟨(fun _ hp => (nomatch hp)), hd, rfl, rfl, (fun _ hp => (nomatch hp)), IntsAre.nil⟩⟩
end

def keyM (i : Nat) : Str := Str.ofString "M" ++ Str.ofString (toString (0 + (i : Int)))
theorem key_new : ∀ i, i < 6 → keyM i ∉ (List.range i).map keyM := by decide +kernel
theorem sum16_snoc (its : List ObjRec) (a : ObjRec) : sum16 (its ++ [a]) = sum16 its + r16 a.v := by
  unfold sum16
  rw [List.map_append, List.sum_append]
  simp
theorem ints_snoc {us : List Value} {ns : List Int} (h : IntsAre us ns) (v : Int) (t : Tok) : IntsAre (us ++ [.int v t]) (ns ++ [v]) := by
  induction h with
  | nil => exact .cons v t .nil
  | cons k t' _ ih => exact .cons k t' ih
theorem loop1_end {prog : Program} {w : World} {h₀ h' : Heap} {L : Addr} {m' : Str → Option Value} {s₁ : Shared} {tk : Nat} {S O D R I x dx : Addr} {it : Obj} {i : Nat} {its : List ObjRec} {o o' : Obj} {us vs : List Value} {own news' : List (Addr × Obj)} {es : List DictEntry} {n cS nD nR : Nat} {v : Int} {tv t1 tz : Tok}
    (F : Fr h₀ L h' m') (N : News h₀ L h' news') (mS : (S, listOf (us.toArray.push (.int v tv)) (cS + 1)) ∈ news') (mI : (I, it) ∈ news') (mO : (O, o') ∈ news') (mD : (D, listOf #[.ref R, .int (1 + (i : Int) + 1) t1] nD) ∈ news') (mR : (R, listOf vs.toArray nR) ∈ news')
    (mx : (x, instObj 379 dx) ∈ news') (md : (dx, dictOf es n) ∈ news') (mown : ∀ p ∈ own, p ∈ news')
    (lt : @LT.lt Nat _ I dx ∧ @LT.lt Nat _ S dx ∧ @LT.lt Nat _ O dx ∧ @LT.lt Nat _ D dx ∧ @LT.lt Nat _ R dx) (lx : @LT.lt Nat _ dx x) (lI : @LT.lt Nat _ S I ∧ @LT.lt Nat _ O I ∧ @LT.lt Nat _ D I ∧ @LT.lt Nat _ R I)
    (ok : LoopOk prog w keyM S O D R I i its o us own) (hi6 : i < 6) (hd : Obj.IsDictOf (PySem.strKind prog w) o' (stored (its.map ObjRec.kv) (keyM i) (.ref x)))
    (hg : getL (Str.ofString "data_size") es = some (some (.int v tv))) (hv0 : 0 ≤ v) (hv1 : v ≤ 5001)
    (fm : ∀ p ∈ names1 S O D (sum16 its + (v + 15).fdiv 16 * 16) tz, m' p.1 = some p.2) :
    UnrEnd h₀ L s₁ I it (LoopJ prog w keyM S O D R I vs nD nR (i + 1)) { s₁ with heap := h', toks := tk } := by
  obtain ⟨off, dict, len, keys, iok, ii⟩ := ok
  obtain ⟨a1, a2, a3, a4, a5⟩ := lt
  obtain ⟨b1, b2, b3, b4⟩ := lI
  have hk : (1 + ((i + 1 : Nat) : Int)) = 1 + (i : Int) + 1 := by omega
  have hnew : keyM i ∉ (its.map ObjRec.kv).map (·.1) := by
    have e : (its.map ObjRec.kv).map (·.1) = its.map (·.key) := by rw [List.map_map]; rfl
    rw [e, keys]
    exact key_new i hi6
  have hsum : sum16 its + (v + 15).fdiv 16 * 16 = sum16 (its ++ [⟨x, dx, es, n, keyM i, v, tv⟩]) := by rw [sum16_snoc, r16_def]
  have ho' : (stored (its.map ObjRec.kv) (keyM i) (.ref x)) = (its ++ [(⟨x, dx, es, n, keyM i, v, tv⟩ : ObjRec)]).map ObjRec.kv := by
    rw [stored_absent (valueAt_none_of_not_mem hnew), List.map_append]
    rfl
  have oI : ∀ p ∈ own, p.1 ≠ I := fun p hp => off p hp I (.head _)
  refine ⟨h', tk, m', led1 S O D R (us ++ [.int v tv]) vs (cS + 1) nD nR o' (1 + ((i + 1 : Nat) : Int)) t1 ((x, instObj 379 dx) :: (dx, dictOf es n) :: own), rfl, F, ?_, ?_, its ++ [⟨x, dx, es, n, keyM i, v, tv⟩], o', us ++ [.int v tv], (x, instObj 379 dx) :: (dx, dictOf es n) :: own, t1, tz, m', cS + 1, frame_self (by rw [← hsum]; exact fm), rfl, ?_⟩
  · intro p hp
    rw [hk] at hp
    simp only [led1, List.mem_cons] at hp
    rcases hp with rfl | rfl | rfl | rfl | rfl | rfl | rfl | hp
    · exact N _ mI
    · refine N _ ?_
      rw [List.push_toArray] at mS
      exact mS
    · exact N _ mO
    · exact N _ mD
    · exact N _ mR
    · exact N _ mx
    · exact N _ md
    · exact N _ (mown p hp)
  · intro p hp
    simp only [led1, List.mem_cons] at hp
    rcases hp with rfl | rfl | rfl | rfl | rfl | rfl | hp
    · exact Nat.ne_of_lt b1
    · exact Nat.ne_of_lt b2
    · exact Nat.ne_of_lt b3
    · exact Nat.ne_of_lt b4
    · exact Nat.ne_of_gt (Nat.lt_trans a1 lx)
    · exact Nat.ne_of_gt a1
    · exact oI p hp
  · refine ⟨?_, ?_, by rw [List.length_append, len]; rfl, by rw [List.map_append, keys, List.range_succ, List.map_append]; rfl, ?_, by rw [List.map_append]; exact ints_snoc ii v tv⟩
    · have lower : ∀ c ∈ [I, S, O, D, R], @LT.lt Nat _ c dx := by
        intro c hc
        simp only [List.mem_cons, List.not_mem_nil, or_false] at hc
        rcases hc with rfl | rfl | rfl | rfl | rfl <;> assumption
      intro p hp c hc
      simp only [List.mem_cons] at hp
      rcases hp with rfl | rfl | hp
      · exact Nat.ne_of_gt (Nat.lt_trans (lower c hc) lx)
      · exact Nat.ne_of_gt (lower c hc)
      · exact off p hp c hc
    · rw [← ho']
      exact hd
    · intro a ha
      rcases List.mem_append.mp ha with ha | ha
      · obtain ⟨c1, c2, c3⟩ := iok a ha
        exact ⟨.tail _ (.tail _ c1), .tail _ (.tail _ c2), c3⟩
      · rw [List.mem_singleton.mp ha]
        exact ⟨.head _, .tail _ (.head _), hg, hv0, hv1⟩
end Mine
namespace Mine
def rsum (ns : List Int) : Int := (ns.map r16).sum
def SizesOk (ns : List Int) : Prop := ∀ n ∈ ns, 0 ≤ n ∧ n ≤ 5001
theorem rsum_nil : rsum [] = 0 := rfl
theorem rsum_cons (a : Int) (ns : List Int) : rsum (a :: ns) = r16 a + rsum ns := rfl
theorem rsum_its (its : List ObjRec) : rsum (its.map fun i => i.v) = sum16 its := by
  unfold rsum sum16
  rw [List.map_map]
  rfl
theorem sizes_its {its : List ObjRec} {own : List (Addr × Obj)} (h : ∀ i ∈ its, i.Ok own) : SizesOk (its.map fun i => i.v) := by
  intro n hn
  obtain ⟨i, hi, rfl⟩ := List.mem_map.mp hn
  exact ⟨(h i hi).2.2.2.1, (h i hi).2.2.2.2⟩
theorem rsum_facts : ∀ {ns : List Int}, SizesOk ns → 0 ≤ rsum ns ∧ rsum ns ≤ 5017 * (ns.length : Int) ∧ ∃ q, rsum ns = 16 * q
  | [], _ => ⟨by rw [rsum_nil]; omega, by rw [rsum_nil]; simp, 0, rsum_nil⟩
  | a :: ns, h => by
    obtain ⟨h1, h2, q, h3⟩ := rsum_facts (ns := ns) fun n hn => h n (.tail _ hn)
    obtain ⟨p, e1, e2, e3⟩ := r16_spec a
    have ha := h a (.head _)
    rw [rsum_cons, List.length_cons]
    exact ⟨by omega, by omega, p + q, by omega⟩
theorem sizes_cut : ∀ {us : List Value} {ns : List Int} {k : Nat}, IntsAre us ns → SizesOk ns → k < ns.length →
    ∃ (p q : List Value) (v : Int) (t : Tok) (ns' : List Int), kl_cut us k = some (p, .int v t, q) ∧ IntsAre (p ++ q) ns' ∧ SizesOk ns' ∧ ns'.length + 1 = ns.length ∧ rsum ns' + r16 v = rsum ns ∧ 0 ≤ v ∧ v ≤ 5001
  | _, _, _, .nil, _, h => absurd h (Nat.not_lt_zero _)
  | _, _, 0, .cons (vs := vs) (ns := ns) n t r, h, _ => by
    refine ⟨[], vs, n, t, ns, rfl, r, fun m hm => h m (.tail _ hm), rfl, ?_, (h n (.head _)).1, (h n (.head _)).2⟩
    rw [rsum_cons]
    omega
  | _, _, k + 1, .cons (vs := vs) (ns := ns) n t r, h, hk => by
    obtain ⟨p, q, v, t', ns', e, i, o, l, s, v0, v1⟩ := sizes_cut r (fun m hm => h m (.tail _ hm)) (Nat.lt_of_succ_lt_succ hk)
    refine ⟨.int n t :: p, q, v, t', n :: ns', ?_, .cons n t i, ?_, by rw [List.length_cons, List.length_cons, l], ?_, v0, v1⟩
    · show (match kl_cut vs k with | some (p, y, q) => some (_ :: p, y, q) | none => none) = _
      rw [e]
    · intro m hm
      rcases List.mem_cons.mp hm with rfl | hm
      · exact h _ (.head _)
      · exact o m hm
    · rw [rsum_cons, rsum_cons]
      omega
theorem ints_len {us : List Value} {ns : List Int} (h : IntsAre us ns) : us.length = ns.length := by
  induction h with
  | nil => rfl
  | cons _ _ _ ih => rw [List.length_cons, List.length_cons, ih]
theorem pop_call {prog : Program} {w : World} {A : Around} {E Q : Value → Shared → Prop} {s : Shared} {h₀ : Heap} {L D : Addr} {m : Str → Option Value} {news : List (Addr × Obj)} {n : Nat} {us : List Value} {ns : List Int} {i : Int} {u : Tok}
    (F : Fr h₀ L s.heap m) (N : News h₀ L s.heap news) (U : ∀ us' : List Value, ∃ news', Upd D (listOf us.toArray n) (listOf us'.toArray (n + 1)) news news') (hi : IntsAre us ns) (ho : SizesOk ns) (hl : ns.length ≤ 6) (h0 : 0 ≤ i) (h1 : i < (ns.length : Int))
    (ret : ∀ us' ns' v t h', IntsAre us' ns' → SizesOk ns' → ns'.length + 1 = ns.length → rsum ns' + r16 v = rsum ns → 0 ≤ rsum ns' → 0 ≤ v → v ≤ 5001 → Fr h₀ L h' m → (∀ news', Upd D (listOf us.toArray n) (listOf us'.toArray (n + 1)) news news' → News h₀ L h' news') → Q (.int v t) { s with heap := h' }) :
    wpAny (model prog w) A (call (.builtin "list.pop") [.ref D, .int i u]) Q E s := by
  obtain ⟨p, q, v, t, ns', e, i', o, l, sm, v0, v1⟩ := sizes_cut (k := i.toNat) hi ho (by omega)
  obtain ⟨nw, U1⟩ := U (p ++ q)
  have hlen := ints_len hi
  refine kl_popAt (k := i.toNat) F N ?_ ?_ e U1 ?_ ?_
  · simp only [Builtin.List.listFitsIndex, Bool.and_eq_true, decide_eq_true_eq]
    exact ⟨by omega, by omega⟩
  · unfold seqIndex?
    rw [List.size_toArray, hlen]
    have hn : ¬ i < 0 := by omega
    simp [hn, h0, h1]
  · rw [sizeLine_eq]
    show us.length ≤ _
    omega
  · intro h' F' N'
    refine ret (p ++ q) ns' v t h' i' o l sm (rsum_facts o).1 v0 v1 F' fun news' U2 => ?_
    obtain ⟨pre, post, e1, e2, ha, hb⟩ := U1.split
    obtain ⟨pre', post', e1', e2', ha', hb'⟩ := U2.split
    intro x hx
    rw [e2'] at hx
    have key : ∀ y ∈ news, y.1 ≠ D → y ∈ nw := by
      intro y hy hne
      rw [e1] at hy
      rw [e2]
      rcases List.mem_append.mp hy with hy | hy
      · exact List.mem_append_left _ hy
      · rcases List.mem_cons.mp hy with rfl | hy
        · exact absurd rfl hne
        · exact List.mem_append_right _ (.tail _ hy)
    rcases List.mem_append.mp hx with hx | hx
    · exact N' _ (key x (by rw [e1']; exact List.mem_append_left _ hx) (ha' x hx))
    · rcases List.mem_cons.mp hx with rfl | hx
      · refine N' _ ?_
        rw [e2]
        exact List.mem_append_right _ (.head _)
      · exact N' _ (key x (by rw [e1']; exact List.mem_append_right _ (.tail _ hx)) (hb' x hx))
theorem ok_all {its : List ObjRec} {own news : List (Addr × Obj)} (h : ∀ i ∈ its, i.Ok own) (hs : ∀ p ∈ own, p ∈ news) : ∀ i ∈ its, i.Ok news := fun i hi =>
  let ⟨a, b, c⟩ := h i hi
  ⟨hs _ a, hs _ b, c⟩
theorem room_at {w : World} {mean : ExcName → Option Value} {mg mb : Str → Option Value} {cn : Str} {nms : List (Str × NameKind)} {ig ic : Bool} {more : List (Str × Const)} {a : Addr} {ccd : Value} {base h₀ : Heap} {L : Addr} {m : Str → Option Value} {s : Shared}
    {O : Addr} {o : Obj} {its : List ObjRec} {own news : List (Addr × Obj)} {Q E : Value → Shared → Prop}
    (B : Below callerA base [] h₀) (F : Fr h₀ L s.heap m) (X : (Mine.hd.heap_39 w.params).In h₀) (N : News h₀ L s.heap news)
    (T : Top Mine.hd.view_39 (looseW Mine.hd.view_39 []) mean mg mb h₀) (hO : (O, o) ∈ news)
    (lo : (O == sysModules) = false) (hd : Obj.IsDictOf (PySem.strKind PR w) o (its.map ObjRec.kv)) (hi : ∀ i ∈ its, i.Ok own) (hs : ∀ p ∈ own, p ∈ news) (hl : its.length ≤ 6)
    (ret : ∀ t h' tk', Fr h₀ L h' m → News h₀ L h' news → Q (.int (max 4096 (sum16 its)) t) { s with heap := h', toks := tk' }) :
    wpAny (model PR w) (callerA.deeper (envOf cn ⟨.function, nms, ig, ic, more⟩ L a ccd)) (call (.ref 28) [.ref O]) Q E s :=
  room_call (own := news) B F X (fun p hp => by
    rcases List.mem_cons.mp hp with rfl | hp
    · exact N _ hO
    · exact N _ hp) T lo hd (ok_all hi hs) hl fun t h' tk' F' N' => ret t h' tk' F' (fun p hp => N' p (.tail _ hp))
theorem max_at {prog : Program} {w : World} {A : Around} {E Q : Value → Shared → Prop} {s : Shared} {h₀ : Heap} {L : Addr} {m : Str → Option Value} {news : List (Addr × Obj)} {a b : Int} {t u : Tok} (hh : A.handled = none) (F : Fr h₀ L s.heap m) (N : News h₀ L s.heap news)
    (ret : ∀ v t h' tk', a ≤ v → b ≤ v → (v = a ∨ v = b) → Fr h₀ L h' m → News h₀ L h' news → Q (.int v t) { s with heap := h', toks := tk' }) :
    wpAny (model prog w) A (call (.builtin "max") [.int a t, .int b u]) Q E s :=
  max_two_N hh F N fun h' tk' F' N' => by
    by_cases c : b > a
    · rw [if_pos c, if_pos c]
      exact ret _ _ _ _ (by omega) (by omega) (.inr rfl) F' N'
    · rw [if_neg c, if_neg c]
      exact ret _ _ _ _ (by omega) (by omega) (.inl rfl) F' N'
end Mine
namespace Mine
structure St2 where
  (us : List Value)
  (ns : List Int)
  (cS : Nat)
  (k top : Int)
  (t tt td : Tok)
abbrev led2 (w : World) (x dx S D R : Addr) (lim : Value) (r : MRest) (vs : List Value) (nD nR : Nat) (c : St2) : List (Addr × Obj) :=
  [(x, instObj 358 dx), (dx, dictOf (mEs w (.int c.top c.td) lim r) 12), (S, listOf c.us.toArray c.cS), (D, listOf #[.ref R, .int c.k c.t] nD), (R, listOf vs.toArray nR)]
abbrev ps2 (c : St2) : List (Str × Value) := [(Str.ofString "top", .int c.top c.tt)]
structure P2 (T : Int) (c : St2) : Prop where
  ii : IntsAre c.us c.ns
  so : SizesOk c.ns
  len : c.ns.length ≤ 6
  k0 : 0 ≤ c.k
  k1 : c.k + (c.ns.length : Int) ≤ 20
  q : ∃ q, c.top = 16 * q
  sum : c.top + rsum c.ns = 64 + T
  lo : 64 ≤ c.top
abbrev End2 (h₀ : Heap) (L : Addr) (s : Shared) (w : World) (x dx S D R : Addr) (lim : Value) (r : MRest) (vs : List Value) (nD nR : Nat) (T : Int) (m₀ : Str → Option Value) (c : St2) (s₂ : Shared) : Prop :=
  KswEnd h₀ L s (led2 w x dx S D R lim r vs nD nR) ps2 (fun _ => True) [Str.ofString "size"] m₀ (P2 T) (fun c => c.ns.length) c s₂
abbrev Post2 (h₀ : Heap) (L : Addr) (s : Shared) (w : World) (x dx S D R : Addr) (lim : Value) (r : MRest) (vs : List Value) (nD nR : Nat) (T : Int) (m₀ : Str → Option Value) (Q : Flow → Shared → Prop) (c : St2) (f : Flow) (s₂ : Shared) : Prop :=
  KswPost h₀ L s (led2 w x dx S D R lim r vs nD nR) ps2 (fun _ => True) [Str.ofString "size"] m₀ (P2 T) (fun c => c.ns.length) Q c f s₂
section
variable {prog : Program} {w : World} {A : Around} {E : Value → Shared → Prop} {Q : Flow → Shared → Prop} {s : Shared} {env : Env} {h₀ : Heap} {L : Addr}
theorem loop2 {test : Expr} {body : List Stmt} {pos : Pos} {m₀ : Str → Option Value} {x dx S D R : Addr} {lim T : Int} {zl z0 zt tD : Tok} {r : MRest} {vs us : List Value} {ns : List Int} {nD nR cS : Nat} {k : Int} {news : List (Addr × Obj)}
    (F : Fr h₀ L s.heap m₀) (N : News h₀ L s.heap news) (m1 : (x, instObj 358 dx) ∈ news) (m2 : (dx, dictOf (mEs w (.int 64 z0) (.int lim zl) r) 12) ∈ news) (m3 : (S, listOf us.toArray cS) ∈ news) (m4 : (D, listOf #[.ref R, .int k tD] nD) ∈ news) (m5 : (R, listOf vs.toArray nR) ∈ news)
    (hm : m₀ (Str.ofString "top") = some (.int 64 zt)) (ii : IntsAre us ns) (so : SizesOk ns) (hl : ns.length ≤ 6) (h0 : 0 ≤ k) (h1 : k + (ns.length : Int) ≤ 20) (hT : rsum ns = T)
    (hE : PassesOwn (model prog w) A env E)
    (turn : ∀ (us : List Value) (ns : List Int) (cS : Nat) (k : Int) (t tt td : Tok) (top q : Int) (u : Str → Option Value) h tk, IntsAre us ns → SizesOk ns → ns.length ≤ 6 → us.length = ns.length → 0 ≤ k → k + (ns.length : Int) ≤ 20 → top = 16 * q → top + rsum ns = 64 + T → 0 ≤ rsum ns → 64 ≤ top →
      Fr h₀ L h (kstB (fun z => if [Str.ofString "size"].contains z then u z else m₀ z) [(Str.ofString "top", .int top tt)]) →
      News h₀ L h [(x, instObj 358 dx), (dx, dictOf (mEs w (.int top td) (.int lim zl) r) 12), (S, listOf us.toArray cS), (D, listOf #[.ref R, .int k t] nD), (R, listOf vs.toArray nR)] →
      wpAny (model prog w) A (isTrue test env (eval test env)) (fun b s₂ =>
        if b = true then wpAny (model prog w) A (execs body env) (Post2 h₀ L s w x dx S D R (.int lim zl) r vs nD nR T m₀ Q ⟨us, ns, cS, k, top, t, tt, td⟩) E s₂ else Q .next s₂) E { s with heap := h, toks := tk }) :
    wpAny (model prog w) A (exec (.While test body [] pos) env) Q E s := by
  refine ksw_while (led2 w x dx S D R (.int lim zl) r vs nD nR) ps2 (fun _ => True) [Str.ofString "size"] (P2 T) (fun c => c.ns.length) ⟨us, ns, cS, k, 64, tD, zt, z0⟩ F ?_ trivial ?_ ?_ ?_ hE
  · intro p hp
    simp only [List.mem_cons, List.not_mem_nil, or_false] at hp
    rcases hp with rfl | rfl | rfl | rfl | rfl
    · exact N _ m1
    · exact N _ m2
    · exact N _ m3
    · exact N _ m4
    · exact N _ m5
  · intro p hp
    rw [List.mem_singleton.mp hp]
    exact hm
  · refine ⟨ii, so, hl, h0, h1, ⟨4, rfl⟩, ?_, by show (64 : Int) ≤ 64; omega⟩
    show 64 + rsum ns = 64 + T
    rw [hT]
  · rintro ⟨us, ns, cS, k, top, t, tt, td⟩ u h tk _ ⟨ii, so, len, k0, k1, ⟨q, hq⟩, sum, lo⟩ F N
    exact turn us ns cS k t tt td top q u h tk ii so len (ints_len ii) k0 k1 hq sum (rsum_facts so).1 lo F N
theorem loop2_end {m₀ m' : Str → Option Value} {x dx S D R : Addr} {lim T : Int} {zl : Tok} {r : MRest} {vs us us' : List Value} {ns ns' : List Int} {nD nR cS cS' : Nat} {k k' top top' topd : Int} {t tt td t' tt' td' : Tok} {h' : Heap} {tk : Nat} {news' : List (Addr × Obj)}
    (F : Fr h₀ L h' m') (N : News h₀ L h' news') (m1 : (x, instObj 358 dx) ∈ news') (m2 : (dx, dictOf (mEs w (.int topd td') (.int lim zl) r) 12) ∈ news') (m3 : (S, listOf us'.toArray cS') ∈ news') (m4 : (D, listOf #[.ref R, .int k' t'] nD) ∈ news') (m5 : (R, listOf vs.toArray nR) ∈ news')
    (hm : m' (Str.ofString "top") = some (.int top' tt')) (hr : ∀ z, (∀ p ∈ [(Str.ofString "top", Value.int top' tt')], z ≠ p.1) → [Str.ofString "size"].contains z = false → m' z = m₀ z)
    (ii : IntsAre us' ns') (so : SizesOk ns') (hl : ns'.length + 1 = ns.length) (hl6 : ns.length ≤ 6) (h0 : 0 ≤ k') (h1 : k' + (ns'.length : Int) ≤ 20) (hd : topd = top') (hq : ∃ q, topd = 16 * q) (hs : topd + rsum ns' = 64 + T) (lo : 64 ≤ topd) :
    End2 h₀ L s w x dx S D R (.int lim zl) r vs nD nR T m₀ ⟨us, ns, cS, k, top, t, tt, td⟩ { s with heap := h', toks := tk } := by
  subst hd
  refine ksw_end ⟨us', ns', cS', k', topd, t', tt', td'⟩ F N ?_ trivial ?_ hr ⟨ii, so, ?_, h0, h1, hq, hs, lo⟩ ?_
  · intro p hp
    simp only [List.mem_cons, List.not_mem_nil, or_false] at hp
    rcases hp with rfl | rfl | rfl | rfl | rfl
    · exact m1
    · exact m2
    · exact m3
    · exact m4
    · exact m5
  · intro p hp
    rw [List.mem_singleton.mp hp]
    exact hm
  · show ns'.length ≤ 6
    omega
  · show ns'.length < ns.length
    omega
end
theorem kstB_one {u : Str → Option Value} {k z : Str} {v : Value} (h : ¬ z = k) : kstB u [(k, v)] z = u z := by
  show (if z = k then some v else u z) = u z
  rw [if_neg h]
theorem q_add {a b p q : Int} (h : a = 16 * p) (h' : b = 16 * q) : ∃ r, a + b = 16 * r := ⟨p + q, by omega⟩
theorem pos_of_ne {ns : List Int} (h : decide (ns = []) = false) : 0 < (ns.length : Int) := by
  cases ns with
  | nil => cases h
  | cons a r => rw [List.length_cons]; omega
end Mine
local macro_rules | `(tactic| walk_at "call ref") => `(tactic| (k_here; (with_reducible show wpAny _ _ (call (Value.ref 390) _) _ _ _); k_dflt (refine' Mine.take_call ?B ?F ?X ?N ?T ?hk ?U ?hR ?hDR ?hi ?hlen ?h0 ?h1 ?hm ?hm8 ?_; (case B => k_asm); (case F => k_asm); (case X => k_asm); (case N => k_asm); (case T => k_asm); (case hk => exact rfl); (case U => exact fun t1 => ⟨_, by k_upd⟩); (case hR => k_mem); (case hDR => (first | assumption | omega)); (case hi => l_ints); (case hlen => omega); (case h0 => omega); (case h1 => omega); (case hm => (first | omega | exact Mine.pos_of_ne (by assumption))); (case hm8 => omega); (intro r9 t1 t2 h' tk' hr0 hr1 F' hN'; (have N' := hN' _ (by k_upd)); clear hN'; (try k_sweep)))))
local macro_rules | `(tactic| walk_at "call ref") => `(tactic| (k_here; (with_reducible show wpAny _ _ (call (Value.ref 379) _) _ _ _); k_dflt (refine' Mine.obj_call ?B ?F ?X ?N ?T ?_; (case B => k_asm); (case F => k_asm); (case X => k_asm); (case N => k_asm); (case T => k_asm); (intro x' dx' r' t0' h' tk' F' N' l1 l2 l3; (try k_lt l1); (try k_lt2 l2); (try k_lt l3); (try k_sweep)))))
local macro_rules | `(tactic| walk_at "call ref") => `(tactic| (k_here; (with_reducible show wpAny _ _ (call (Value.ref 358) _) _ _ _); k_dflt (refine' Mine.mach_call ?B ?F ?X ?N ?T ?d0 ?d1 ?d2 ?_; (case B => k_asm); (case F => k_asm); (case X => k_asm); (case N => k_asm); (case T => k_asm); (case d0 => omega); (case d1 => omega); (case d2 => omega); (intro x' dx' r' z0' z1' h' tk' F' N' l1 l2 l3; (try k_lt l1); (try k_lt2 l2); (try k_lt l3); (try k_sweep)))))
local macro_rules | `(tactic| walk_at "call ref") => `(tactic| (k_here; (with_reducible show wpAny _ _ (call (Value.ref 277) _) _ _ _); k_dflt (refine' Mine.round_walk ?B ?F ?X ?N ?T ?hA ?hf ?hk ?hroom ?_; (case B => k_asm); (case F => k_asm); (case X => k_asm); (case N => k_asm); (case T => k_asm); (case hA => exact rfl); (case hf => exact rfl); (case hk => exact rfl); (case hroom => k_room); (intro v9 q9 t9 h' tk' e1 e2 e3 e4 F' N'; (try k_sweep)))))
local macro_rules | `(tactic| walk_at "ite") => `(tactic| (k_here; k_dflt (first | refine ite_pos (by ((try simp only [decide_eq_true_eq]); omega)) ?_ | refine ite_neg (by ((try simp only [decide_eq_true_eq]); omega)) ?_)))
local macro_rules | `(tactic| walk_at "exec Raise some none") => `(tactic| (k_here; k_dflt (refine Mine.trap_raise rfl ?_)))
local macro_rules | `(tactic| walk_at "RaiseBack") => `(tactic| (k_here; k_dflt (refine' Mine.trap_back ?F ?X ?N ?m ?_; (case F => k_asm); (case X => k_asm); (case N => k_asm); (case m => k_mem))))
local macro_rules | `(tactic| walk_at "call ref") => `(tactic| (k_here; (with_reducible show wpAny _ _ (call (Value.ref 58) _) _ _ _); k_dflt (refine' Mine.trap_make ?F ?X ?N ?_ ?z; (case F => k_asm); (case X => k_asm); (case N => k_asm); (case z => exact Nat.le_of_ble_eq_true rfl); (intro x' t' h' F' N' l1 l2 l3; (try k_lt l1); (try k_lt2 l2); (try k_lt l3); (try k_sweep)))))
local macro_rules | `(tactic| walk_at "setAttr ref") => `(tactic| (k_here; k_dflt (refine' Mine.trap_new ?F ?X ?N ?hs ?hob ?ht ?U ?_; (case F => k_asm); (case X => k_asm); (case N => k_asm); (case U => exact ⟨_, by k_upd⟩); (case hs => k_is); (case hob => k_is); (case ht => k_is); (intro dx' h' F' hN' l1; (have N' := hN' _ (by k_upd)); clear hN'; (try k_lt l1); (try k_sweep)))))
local macro_rules | `(tactic| walk_at "setAttr ref") => `(tactic| (k_here; k_dflt (refine' Mine.trap_set ?F ?X ?N ?m ?d ?hs ?hob ?ht ?l ?e ?U ?z ?_; (case F => k_asm); (case X => k_asm); (case N => k_asm); (case m => k_mem); (case d => k_mem); (case hs => k_is); (case hob => k_is); (case ht => k_is); (case l => k_get); (case e => k_put); (case U => k_upd); (case z => exact Nat.le_of_ble_eq_true rfl); (intro h' F' N'; (try k_sweep)))))
local macro_rules | `(tactic| walk_at "leaving ref") => `(tactic| (k_here; k_dflt (refine' Mine.trap_leave ?K ?F ?N ?he ?hs ?_; (case K => k_asm); (case F => k_asm); (case N => k_asm); (case he => k_mem); (case hs => repeat' (first | exact Mine.Drop.nil | refine' Mine.Drop.skip ?_ | (refine' Mine.Drop.all ?a; (case a => k_all)) | (refine' Mine.Drop.keep ?a ?_; (case a => k_ne)))); (intro h' R' U'; (try dsimp only at R' U' ⊢)))))
local macro_rules | `(tactic| walk_at "noteFrame ref") => `(tactic| (k_here; (rename Mine.RaisedE _ _ _ _ _ _ _ => rkE); k_dflt (refine' Mine.trap_caught ?K ?F ?U ?R ?X ?T ?_ ?ex; (case K => assumption); (case F => assumption); (case U => assumption); (case R => exact rkE); (case X => k_asm); (case T => k_asm); (case ex => k_is); (intro h' tk' ws' sl' F' N'; (try k_sweep)))))
local macro_rules | `(tactic| walk_at "getAttr ref") => `(tactic| (k_here; k_dflt (refine' Mine.trap_get ?F ?X ?N ?m ?d ?g1 ?g2 ?g3 ?ha ?hn ?hl ?hv ?_; (case F => k_asm); (case X => k_asm); (case N => k_asm); (case m => k_mem); (case d => k_mem); (case g1 => k_is); (case g2 => k_is); (case g3 => k_is); (case ha => k_is); (case hn => k_is); (case hl => k_get); (case hv => k_handed))))
local macro_rules | `(tactic| walk_at "call type:range") => `(tactic| (k_here; (rename Fr _ _ _ _ => F'); (rename News _ _ _ _ => N'); with_unfolding_all refine range1_rows F' N' ?_; intro _ _ _ _ _ _ _ _ _))
local macro_rules | `(tactic| walk_at "pyIter ref") => `(tactic| (k_here; (with_reducible show wpAny _ _ (pyIter (Value.ref _)) (fun it s₂ => LoopAtV _ _ _ _ _ _ _ _ _ it s₂) _ _); refine Mine.stop_here ?_))
local macro_rules | `(tactic| walk_at "setItem ref str") => `(tactic| (k_here; (with_reducible show wpAny _ _ (setItem (Value.ref _) (Value.str _ _) (Value.ref _)) _ _ _); k_dflt (refine' kda_set (knd := PySem.strKind _ _) ?F ?N ?U ?d (strKind_is _ _ _ _) ?z ?_; (case F => k_asm); (case N => k_asm); (case U => k_updF); (case d => k_asm); (case z => (rw [List.length_map, sizeLine_eq]; omega))); (intro h' o' F' N' hd'; (try dsimp only at N'); (try k_sweep))))
local macro_rules | `(tactic| walk_at "call ref") => `(tactic| (k_here; (with_reducible show wpAny _ _ (call (Value.ref 28) _) _ _ _); k_dflt (refine' Mine.room_at ?B ?F ?X ?N ?T ?hO ?lo ?hd ?hi ?hs ?hl ?_; (case B => k_asm); (case F => k_asm); (case X => k_asm); (case N => k_asm); (case T => k_asm); (case hO => k_mem); (case lo => assumption); (case hd => assumption); (case hi => assumption); (case hs => (intro p hp; repeat (first | exact hp | refine List.Mem.tail _ ?_))); (case hl => omega); (intro t9 h' tk' F' N'; (try k_sweep)))))
local macro_rules | `(tactic| walk_at "call builtin:max") => `(tactic| (k_here; k_dflt (refine' Mine.max_at ?hh ?F ?N ?_; (case hh => exact rfl); (case F => k_asm); (case N => k_asm); (intro vm tm h' tk' hm1 hm2 hm3 F' N'; (try k_sweep)))))
local macro_rules | `(tactic| walk_at "exec While") => `(tactic| (k_here; refine Mine.stop_here ?_))
local macro_rules | `(tactic| walk_at "call builtin:list.pop") => `(tactic| (k_here; k_dflt (refine' Mine.pop_call ?F ?N ?U ?hi ?ho ?hl ?h0 ?h1 ?_; (case F => k_asm); (case N => k_asm); (case U => exact fun us' => ⟨_, by k_upd⟩); (case hi => assumption); (case ho => assumption); (case hl => omega); (case h0 => omega); (case h1 => omega); (intro us' ns' v' t' h' ii' so' ll' ss' rs' v0' v1' F' hN'; (have N' := hN' _ (by k_upd)); clear hN'; (try k_sweep)))))
theorem PySem.Challenge.cw_pq0773_01_holds : PySem.Challenge.rw_pq0773_01.Holds := by
  w_on
  o_law
  refine holds_open (q := Mine.hd.view_39) (loose := []) (Xt := Mine.hd.xt) (XP := XL Mine.hd.view_39 []) (Yf := Hook.obs (kHook Mine.hd.heap_39 Mine.hd.kAs Mine.hd.kEq)) (Ya := Hook.val (kHook Mine.hd.heap_39 Mine.hd.kAs Mine.hd.kEq)) (YP := Hook.says (kHook Mine.hd.heap_39 Mine.hd.kAs Mine.hd.kEq)) (N := 5812) Mine.hd.left (Hook.of (kHook Mine.hd.heap_39 Mine.hd.kAs Mine.hd.kEq)) (Hook.keeps (kHook Mine.hd.heap_39 Mine.hd.kAs Mine.hd.kEq))
    (fun s e => xl_of s (Bool.and_eq_true_iff.mp e).1) XL.keeps (by rfl) (by rfl) (by rfl) (fun s e => recFacts_of (Bool.and_eq_true_iff.mp e).2) (by rfl) (by first | assumption | decide +kernel) (by decide +kernel) ⟨rfl, rfl, rfl, rfl, rfl, by decide +kernel⟩ ?hw ?hc
  case hw => w_witness2
  rename_i hsaid
  clear hsaid
  k_go0
  all_goals (try k_fold)
  k_steps
  unfold Mine.Stop
  rename IsRange _ _ _ _ _ _ _ _ => rgX
  rename News _ _ _ _ => N1
  rename Fr _ _ _ _ => F1
  with_unfolding_all refine' Mine.loop1 Mine.keyM (by rfl) rgX ?b0 ?b6 F1 N1 ?d ?fm ?turn ?done
  case b0 => omega
  case b6 => omega
  case d => assumption
  case fm => with_unfolding_all kst_all
  case turn =>
    intro I it i its o us own t1 t2 t u cS h tk hi6 hI ok F2 N2
    obtain ⟨hS, hO, hD, hR⟩ := hI
    obtain ⟨off, dict, len, keys, iok, ii⟩ := ok
    have kM := kstMark
    have hus : us.length = i := by
      have := ii.length
      rw [List.length_map, len] at this
      exact this
    clear F1 N1
    dsimp only [Mine.led1, Mine.names1] at F2 N2
    try k_fold
    k_steps
    refine' Mine.loop1_end (own := own) ?F ?N ?mS ?mI ?mO ?mD ?mR ?mx ?md ?mown ?lt ?lx ?lI ?ok hi6 ?hd ?hg ?v0 ?v1 ?fm
    case F => assumption
    case N => assumption
    case mS => k_mem
    case mI => k_mem
    case mO => k_mem
    case mD => k_mem
    case mR => k_mem
    case mx => k_mem
    case md => k_mem
    case mown =>
      intro p hp
      repeat (first | exact hp | refine List.Mem.tail _ ?_)
    case lt => refine ⟨?_, ?_, ?_, ?_, ?_⟩ <;> omega
    case lx => assumption
    case lI => exact ⟨hS, hO, hD, hR⟩
    case ok => exact ⟨off, dict, len, keys, iok, ii⟩
    case hd => assumption
    case hg => k_get
    case v0 => exact (kmn_any (d := 0) (lo := 0) (hi := 5001) (by decide)).1
    case v1 => exact (kmn_any (d := 0) (lo := 0) (hi := 5001) (by decide)).2
    case fm => with_unfolding_all kst_all
  case done =>
    intro I its o us own t1 t2 u cS h tk ok F2 N2
    obtain ⟨off, dict, len, keys, iok, ii⟩ := ok
    have kM := kstMark
    have hlen6 : its.length ≤ 6 := by omega
    have hso := Mine.sizes_its iok
    obtain ⟨hs0, hs1, hq, hs2⟩ := Mine.rsum_facts hso
    rw [Mine.rsum_its] at hs0 hs1 hs2
    rw [List.length_map] at hs1
    clear F1 N1
    dsimp only [Mine.led1, Mine.names1] at F2 N2
    try k_fold
    k_steps
    unfold Mine.Stop
    rename News _ _ _ _ => N3
    rename Fr _ _ _ _ => F3
    with_unfolding_all refine' Mine.loop2 (T := Mine.sum16 its) F3 N3 ?m1 ?m2 ?m3 ?m4 ?m5 ?hm ii hso ?hl ?h0 ?h1 ?hT (by passes_own) ?turn
    case m1 => k_mem
    case m2 => k_mem
    case m3 => k_mem
    case m4 => k_mem
    case m5 => k_mem
    case hm => exact rfl
    case hl => rw [List.length_map]; exact hlen6
    case h0 => omega
    case h1 => rw [List.length_map]; omega
    case hT => exact Mine.rsum_its its
    case turn =>
      intro us2 ns2 cS2 k2 t5 tt5 td5 top2 q2 u2 h2 tk2 ii2 so2 ln2 us2l k20 k21 hq2 hs2' rs2 lo2 F4 N4
      clear F3 N3
      have hf2 : top2.fmod 16 = 0 := by rw [hq2, Int.fmod_eq_emod_of_nonneg _ (by decide)]; omega
      try k_fold
      k_steps
      all_goals (try (exfalso; omega))
      dsimp only [Mine.Post2, KswPost]
      with_unfolding_all refine' Mine.loop2_end ?F ?N ?m1 ?m2 ?m3 ?m4 ?m5 ?hm ?hr ?ii ?so ?hl ?hl6 ?h0 ?h1 ?hd ?hq ?hs ?lo
      case F => assumption
      case N => assumption
      case m1 => k_mem
      case m2 => k_mem
      case m3 => k_mem
      case m4 => k_mem
      case m5 => k_mem
      case hm => exact rfl
      case hr =>
        intro z h2 h3
        simp only [List.forall_mem_cons, List.not_mem_nil, false_implies, implies_true, and_true, ne_eq] at h2
        simp only [List.contains_cons, List.contains_nil, Bool.or_false, beq_eq_false_iff_ne, ne_eq] at h3
        simp [h2, h3, Mine.kstB_one h2]
      case ii => assumption
      case so => assumption
      case hl => assumption
      case hl6 => omega
      case h0 => omega
      case h1 => omega
      case hd => rw [← Mine.r16_def]; omega
      case hq => exact Mine.q_add (by assumption) (by assumption)
      case hs => omega
      case lo => omega
