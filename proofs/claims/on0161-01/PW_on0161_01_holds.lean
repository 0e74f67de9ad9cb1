import PyProof.Rows.All
import Wide.All
import OpenK.AllK
import Wide.FinOn
import PySem.Challenge.RW_on0161_01
set_option Elab.async false
set_option linter.all false
namespace Mine
open PySem PySem.W PyProof.Rows
section
open PySem PySem.W PyProof.Rows
set_option maxRecDepth 100000
set_option maxHeartbeats 8000000
noncomputable abbrev PG : Program := PySem.Challenge.rw_on0161_01.row.prog
noncomputable def stm (i : Nat) : Stmt := PG.main.body.getD i (.Pass default)
noncomputable def stc (i j : Nat) : Stmt := match stm i with
  | .ClassDef _ _ _ b .. => b.getD j (.Pass default)
  | _ => .Pass default
/-- the object of a def that stands in the text -/
noncomputable def fnOb {nm : Str} {ps : Arguments} {b : List Stmt} {dl : List PySem.Expr} {rt : Option PySem.Expr} {tp : List TypeParam} {sc : Scope} {ts : Option Scope} {bd : Str} {po : Pos} (s : Stmt) (_ : s = .FunctionDef nm ps b dl rt tp sc ts bd po)
  (q : Str) (g : Addr) (cl : List (Str × Addr)) (df kd doc pm : Value) (an : Option Addr) (cd ct : Value) (bt : Addr) (c : Value) (d : Option Addr) (sl : Array (Option Value)) : Obj :=
  { cls := c, dict := d, data := .func { name := nm, qualname := q, params := ps, body := .stmts b, scope := sc, globals := g, closure := cl, defaults := df, kwdefaults := kd, doc := doc, pyModule := pm, annotations := an, code := cd, closureTuple := ct, builtins := bt }, slots := sl }
noncomputable def o0 (P : Params) : Obj := { cls := Value.type "tuple", data := Data.seq #[] }
noncomputable def o1 (P : Params) : Obj := { cls := Value.none, data := Data.fields #[] }
noncomputable def o2 (P : Params) : Obj := { cls := Value.type "code", data := Data.fields #[Value.str (Str.ofString "<module>") 182, Value.str (Str.ofString "<module>") 183, Value.str (Str.ofString "/claim/cut.py") 184, Value.int 1 0, Value.int 0 0, Value.int 0 0, Value.int 0 0, Value.int 0 0, Value.ref 11, Value.bool false, Value.int 181 0, Value.ref 12, Value.none, Value.none, Value.none, Value.none, Value.int 185 0, Value.int 1 0, Value.str (Str.ofString "/claim/cut.py") 186] }
noncomputable def o3 (P : Params) : Obj := { cls := Value.type "frame", slots := #[some (Value.ref 13), some (Value.ref 3), some (Value.ref 3), none, some (Value.str (Str.ofString "__main__") 164), none, some (Value.ref 0)] }
noncomputable def o4 (P : Params) : Obj := { cls := Value.type "dict", data := Data.dict #[{ hash := PyData.keyHash P (Str.ofString "__name__"), key := Value.str (Str.ofString "__name__") 165, val := Value.str (Str.ofString "grammarmill.source") 194 }, { hash := PyData.keyHash P (Str.ofString "__doc__"), key := Value.str (Str.ofString "__doc__") 166, val := Value.none }, { hash := PyData.keyHash P (Str.ofString "__package__"), key := Value.str (Str.ofString "__package__") 167, val := Value.none }, { hash := PyData.keyHash P (Str.ofString "__loader__"), key := Value.str (Str.ofString "__loader__") 168, val := Value.builtin "__main__.__loader__#opaque" }, { hash := PyData.keyHash P (Str.ofString "__spec__"), key := Value.str (Str.ofString "__spec__") 169, val := Value.none }, { hash := PyData.keyHash P (Str.ofString "__annotations__"), key := Value.str (Str.ofString "__annotations__") 170, val := Value.ref 6 }, { hash := PyData.keyHash P (Str.ofString "__builtins__"), key := Value.str (Str.ofString "__builtins__") 171, val := Value.ref 4 }, { hash := PyData.keyHash P (Str.ofString "__file__"), key := Value.str (Str.ofString "__file__") 173, val := Value.str (Str.ofString "/claim/cut.py") 172 }, { hash := PyData.keyHash P (Str.ofString "__cached__"), key := Value.str (Str.ofString "__cached__") 174, val := Value.none }, { hash := PyData.keyHash P (Str.ofString "_wall"), key := Value.str (Str.ofString "_wall") 193, val := Value.ref 21 }, { hash := PyData.keyHash P (Str.ofString "Position"), key := Value.str (Str.ofString "Position") 235, val := Value.ref 45 }] 11 }
noncomputable def o5 (P : Params) : Obj := { cls := Value.none, data := Data.fields #[Value.int 1 0, Value.int 0 0, Value.ref 20, Value.int 5 0, Value.int 0 0, Value.ref 27] }
noncomputable def o6 (P : Params) : Obj := { cls := Value.type "tuple", data := Data.seq #[] }
noncomputable def o7 (P : Params) : Obj := { cls := Value.none, data := Data.fields #[] }
noncomputable def o8 (P : Params) : Obj := { cls := Value.type "tuple", data := Data.seq #[Value.str (Str.ofString "k") 190] }
noncomputable def o9 (P : Params) : Obj := { cls := Value.type "tuple", data := Data.seq #[] }
noncomputable def o10 (P : Params) : Obj := fnOb (stm 0) rfl (Str.ofString "_wall") (0) ([]) (Value.none) (Value.none) (Value.none) (Value.none) (none) (Value.none) (Value.none) (0) (Value.none) (none) (#[])
noncomputable def o11 (P : Params) : Obj := { cls := Value.type "code", data := Data.fields #[Value.str (Str.ofString "_wall") 187, Value.str (Str.ofString "_wall") 188, Value.str (Str.ofString "/claim/cut.py") 189, Value.int 1 0, Value.int 1 0, Value.int 0 0, Value.int 0 0, Value.int 3 0, Value.ref 15, Value.bool true, Value.int 181 0, Value.ref 16, Value.none, Value.ref 17, Value.ref 18, Value.ref 19, Value.int 191 0, Value.int 1 0, Value.str (Str.ofString "/claim/cut.py") 192] }
noncomputable def o12 (P : Params) : Obj := fnOb (stm 0) rfl (Str.ofString "_wall") (3) ([]) (Value.none) (Value.none) (Value.none) (Value.str (Str.ofString "__main__") 164) (none) (Value.ref 20) (Value.none) (0) (Value.type "function") (none) (#[])
noncomputable def o13 (P : Params) : Obj := { cls := Value.type "tuple", data := Data.seq #[] }
noncomputable def o14 (P : Params) : Obj := { cls := Value.type "builtin_function_or_method", data := Data.fields #[Value.builtin "type.__prepare__", Value.type "type"] }
noncomputable def o15 (P : Params) : Obj := { cls := Value.type "dict", data := Data.dict #[{ hash := PyData.keyHash P (Str.ofString "__module__"), key := Value.str (Str.ofString "__module__") 203, val := Value.str (Str.ofString "grammarmill.source") 194 }, { hash := PyData.keyHash P (Str.ofString "__qualname__"), key := Value.str (Str.ofString "__qualname__") 205, val := Value.str (Str.ofString "Position") 204 }, { hash := PyData.keyHash P (Str.ofString "__firstlineno__"), key := Value.str (Str.ofString "__firstlineno__") 207, val := Value.int 5 206 }, { hash := PyData.keyHash P (Str.ofString "__init__"), key := Value.str (Str.ofString "__init__") 217, val := Value.ref 35 }, { hash := PyData.keyHash P (Str.ofString "told"), key := Value.str (Str.ofString "told") 224, val := Value.ref 42 }, { hash := PyData.keyHash P (Str.ofString "__static_attributes__"), key := Value.str (Str.ofString "__static_attributes__") 228, val := Value.ref 43 }] 6 }
noncomputable def o16 (P : Params) : Obj := { cls := Value.type "tuple", data := Data.seq #[] }
noncomputable def o17 (P : Params) : Obj := { cls := Value.none, data := Data.fields #[Value.int 7 0, Value.int 4 0, Value.ref 34, Value.int 12 0, Value.int 4 0, Value.ref 41] }
noncomputable def o18 (P : Params) : Obj := { cls := Value.type "code", data := Data.fields #[Value.str (Str.ofString "Position") 198, Value.str (Str.ofString "Position") 199, Value.str (Str.ofString "/claim/cut.py") 200, Value.int 5 0, Value.int 0 0, Value.int 0 0, Value.int 0 0, Value.int 0 0, Value.ref 25, Value.bool false, Value.int 181 0, Value.ref 26, Value.none, Value.none, Value.none, Value.none, Value.int 201 0, Value.int 5 0, Value.str (Str.ofString "/claim/cut.py") 202] }
noncomputable def o19 (P : Params) : Obj := { cls := Value.type "frame", slots := #[some (Value.ref 27), some (Value.ref 3), some (Value.ref 24), none, some (Value.str (Str.ofString "grammarmill.source") 194), none, some (Value.ref 0)] }
noncomputable def o20 (P : Params) : Obj := { cls := Value.type "tuple", data := Data.seq #[] }
noncomputable def o21 (P : Params) : Obj := { cls := Value.none, data := Data.fields #[] }
noncomputable def o22 (P : Params) : Obj := { cls := Value.type "tuple", data := Data.seq #[Value.str (Str.ofString "self") 211, Value.str (Str.ofString "offset") 212, Value.str (Str.ofString "line") 213, Value.str (Str.ofString "column") 214] }
noncomputable def o23 (P : Params) : Obj := { cls := Value.type "tuple", data := Data.seq #[] }
noncomputable def o24 (P : Params) : Obj := fnOb (stc 2 0) rfl (Str.ofString "Position.__init__") (0) ([]) (Value.none) (Value.none) (Value.none) (Value.none) (none) (Value.none) (Value.none) (0) (Value.none) (none) (#[])
noncomputable def o25 (P : Params) : Obj := { cls := Value.type "code", data := Data.fields #[Value.str (Str.ofString "__init__") 208, Value.str (Str.ofString "Position.__init__") 209, Value.str (Str.ofString "/claim/cut.py") 210, Value.int 7 0, Value.int 4 0, Value.int 0 0, Value.int 0 0, Value.int 3 0, Value.ref 29, Value.bool true, Value.int 181 0, Value.ref 30, Value.none, Value.ref 31, Value.ref 32, Value.ref 33, Value.int 215 0, Value.int 7 0, Value.str (Str.ofString "/claim/cut.py") 216] }
noncomputable def o26 (P : Params) : Obj := fnOb (stc 2 0) rfl (Str.ofString "Position.__init__") (3) ([]) (Value.none) (Value.none) (Value.none) (Value.str (Str.ofString "grammarmill.source") 194) (none) (Value.ref 34) (Value.none) (0) (Value.type "function") (none) (#[])
noncomputable def o27 (P : Params) : Obj := { cls := Value.type "tuple", data := Data.seq #[] }
noncomputable def o28 (P : Params) : Obj := { cls := Value.none, data := Data.fields #[] }
noncomputable def o29 (P : Params) : Obj := { cls := Value.type "tuple", data := Data.seq #[Value.str (Str.ofString "self") 221] }
noncomputable def o30 (P : Params) : Obj := { cls := Value.type "tuple", data := Data.seq #[] }
noncomputable def o31 (P : Params) : Obj := fnOb (stc 2 1) rfl (Str.ofString "Position.told") (0) ([]) (Value.none) (Value.none) (Value.none) (Value.none) (none) (Value.none) (Value.none) (0) (Value.none) (none) (#[])
noncomputable def o32 (P : Params) : Obj := { cls := Value.type "code", data := Data.fields #[Value.str (Str.ofString "told") 218, Value.str (Str.ofString "Position.told") 219, Value.str (Str.ofString "/claim/cut.py") 220, Value.int 12 0, Value.int 1 0, Value.int 0 0, Value.int 0 0, Value.int 3 0, Value.ref 36, Value.bool true, Value.int 181 0, Value.ref 37, Value.none, Value.ref 38, Value.ref 39, Value.ref 40, Value.int 222 0, Value.int 12 0, Value.str (Str.ofString "/claim/cut.py") 223] }
noncomputable def o33 (P : Params) : Obj := fnOb (stc 2 1) rfl (Str.ofString "Position.told") (3) ([]) (Value.none) (Value.none) (Value.none) (Value.str (Str.ofString "grammarmill.source") 194) (none) (Value.ref 41) (Value.none) (0) (Value.type "function") (none) (#[])
noncomputable def o34 (P : Params) : Obj := { cls := Value.type "tuple", data := Data.seq #[Value.str (Str.ofString "column") 225, Value.str (Str.ofString "line") 226, Value.str (Str.ofString "offset") 227] }
noncomputable def o35 (P : Params) : Obj := { cls := Value.type "dict", data := Data.dict #[{ hash := PyData.keyHash P (Str.ofString "__module__"), key := Value.str (Str.ofString "__module__") 203, val := Value.str (Str.ofString "grammarmill.source") 194 }, { hash := PyData.keyHash P (Str.ofString "__firstlineno__"), key := Value.str (Str.ofString "__firstlineno__") 207, val := Value.int 5 206 }, { hash := PyData.keyHash P (Str.ofString "__init__"), key := Value.str (Str.ofString "__init__") 217, val := Value.ref 35 }, { hash := PyData.keyHash P (Str.ofString "told"), key := Value.str (Str.ofString "told") 224, val := Value.ref 42 }, { hash := PyData.keyHash P (Str.ofString "__static_attributes__"), key := Value.str (Str.ofString "__static_attributes__") 228, val := Value.ref 43 }, { hash := PyData.keyHash P (Str.ofString "__dict__"), key := Value.str (Str.ofString "__dict__") 230, val := Value.ref 46 }, { hash := PyData.keyHash P (Str.ofString "__weakref__"), key := Value.str (Str.ofString "__weakref__") 232, val := Value.ref 47 }, { hash := PyData.keyHash P (Str.ofString "__doc__"), key := Value.str (Str.ofString "__doc__") 233, val := Value.none }] 4 }
noncomputable def o36 (P : Params) : Obj := { cls := Value.type "type", data := Data.cls { name := Str.ofString "Position", bases := [Value.type "object"], mro := [Value.ref 45, Value.type "object"], ns := 44, qualname := Str.ofString "Position" }, slots := #[none, none, some (Value.str (Str.ofString "Position") 196), some (Value.str (Str.ofString "Position") 204), some (Value.builtin "object.__new__"), some (Value.bool true)] }
noncomputable def o37 (P : Params) : Obj := { cls := Value.type "getset_descriptor", data := Data.fields #[Value.str (Str.ofString "__dict__") 229, Value.ref 45, Value.builtin "function.__dict__", Value.builtin "function.__dict__#set"] }
noncomputable def o38 (P : Params) : Obj := { cls := Value.type "getset_descriptor", data := Data.fields #[Value.str (Str.ofString "__weakref__") 231, Value.ref 45, Value.builtin "ExceptionGroup.__weakref__", Value.none] }
noncomputable def o39 (P : Params) : Obj := { cls := Value.type "super", data := Data.fields #[Value.ref 45, Value.ref 45, Value.ref 45] }
noncomputable def o40 (P : Params) : Obj := { cls := Value.type "builtin_function_or_method", data := Data.fields #[Value.builtin "object.__init_subclass__", Value.ref 45] }
noncomputable def o41 (P : Params) : Obj := { cls := Value.none, data := Data.dict #[{ hash := PyData.keyHash P (Str.ofString "type.__subclasses__.Exception.0"), key := Value.str (Str.ofString "type.__subclasses__.Exception.0") 270, val := Value.int 74 0 }, { hash := PyData.keyHash P (Str.ofString "type.__subclasses__.Exception.n"), key := Value.str (Str.ofString "type.__subclasses__.Exception.n") 271, val := Value.int 1 0 }] 2 }
noncomputable def o42 (P : Params) : Obj := { cls := Value.type "dict", data := Data.dict #[{ hash := PyData.keyHash P (Str.ofString "__name__"), key := Value.str (Str.ofString "__name__") 165, val := Value.str (Str.ofString "grammarmill.source") 194 }, { hash := PyData.keyHash P (Str.ofString "__doc__"), key := Value.str (Str.ofString "__doc__") 166, val := Value.none }, { hash := PyData.keyHash P (Str.ofString "__package__"), key := Value.str (Str.ofString "__package__") 167, val := Value.none }, { hash := PyData.keyHash P (Str.ofString "__loader__"), key := Value.str (Str.ofString "__loader__") 168, val := Value.builtin "__main__.__loader__#opaque" }, { hash := PyData.keyHash P (Str.ofString "__spec__"), key := Value.str (Str.ofString "__spec__") 169, val := Value.none }, { hash := PyData.keyHash P (Str.ofString "__annotations__"), key := Value.str (Str.ofString "__annotations__") 170, val := Value.ref 6 }, { hash := PyData.keyHash P (Str.ofString "__builtins__"), key := Value.str (Str.ofString "__builtins__") 171, val := Value.ref 4 }, { hash := PyData.keyHash P (Str.ofString "__file__"), key := Value.str (Str.ofString "__file__") 173, val := Value.str (Str.ofString "/claim/cut.py") 172 }, { hash := PyData.keyHash P (Str.ofString "__cached__"), key := Value.str (Str.ofString "__cached__") 174, val := Value.none }, { hash := PyData.keyHash P (Str.ofString "_wall"), key := Value.str (Str.ofString "_wall") 193, val := Value.ref 21 }, { hash := PyData.keyHash P (Str.ofString "Position"), key := Value.str (Str.ofString "Position") 235, val := Value.ref 45 }, { hash := PyData.keyHash P (Str.ofString "ToolError"), key := Value.str (Str.ofString "ToolError") 273, val := Value.ref 74 }] 12 }
noncomputable def o43 (P : Params) : Obj := { cls := Value.none, data := Data.fields #[Value.int 1 0, Value.int 0 0, Value.ref 20, Value.int 5 0, Value.int 0 0, Value.ref 27, Value.int 14 0, Value.int 0 0, Value.ref 55] }
noncomputable def o44 (P : Params) : Obj := { cls := Value.type "tuple", data := Data.seq #[Value.type "Exception"] }
noncomputable def o45 (P : Params) : Obj := { cls := Value.type "builtin_function_or_method", data := Data.fields #[Value.builtin "type.__prepare__", Value.type "type"] }
noncomputable def o46 (P : Params) : Obj := { cls := Value.type "dict", data := Data.dict #[{ hash := PyData.keyHash P (Str.ofString "__module__"), key := Value.str (Str.ofString "__module__") 243, val := Value.str (Str.ofString "grammarmill.source") 194 }, { hash := PyData.keyHash P (Str.ofString "__qualname__"), key := Value.str (Str.ofString "__qualname__") 245, val := Value.str (Str.ofString "ToolError") 244 }, { hash := PyData.keyHash P (Str.ofString "__firstlineno__"), key := Value.str (Str.ofString "__firstlineno__") 247, val := Value.int 14 246 }, { hash := PyData.keyHash P (Str.ofString "__init__"), key := Value.str (Str.ofString "__init__") 256, val := Value.ref 64 }, { hash := PyData.keyHash P (Str.ofString "told"), key := Value.str (Str.ofString "told") 263, val := Value.ref 71 }, { hash := PyData.keyHash P (Str.ofString "__static_attributes__"), key := Value.str (Str.ofString "__static_attributes__") 266, val := Value.ref 72 }] 6 }
noncomputable def o47 (P : Params) : Obj := { cls := Value.type "tuple", data := Data.seq #[] }
noncomputable def o48 (P : Params) : Obj := { cls := Value.none, data := Data.fields #[Value.int 16 0, Value.int 4 0, Value.ref 63, Value.int 21 0, Value.int 4 0, Value.ref 70] }
noncomputable def o49 (P : Params) : Obj := { cls := Value.type "code", data := Data.fields #[Value.str (Str.ofString "ToolError") 238, Value.str (Str.ofString "ToolError") 239, Value.str (Str.ofString "/claim/cut.py") 240, Value.int 14 0, Value.int 0 0, Value.int 0 0, Value.int 0 0, Value.int 0 0, Value.ref 53, Value.bool false, Value.int 181 0, Value.ref 54, Value.none, Value.none, Value.none, Value.none, Value.int 241 0, Value.int 14 0, Value.str (Str.ofString "/claim/cut.py") 242] }
noncomputable def o50 (P : Params) : Obj := { cls := Value.type "frame", slots := #[some (Value.ref 55), some (Value.ref 3), some (Value.ref 52), none, some (Value.str (Str.ofString "grammarmill.source") 194), none, some (Value.ref 0)] }
noncomputable def o51 (P : Params) : Obj := { cls := Value.type "tuple", data := Data.seq #[Value.none] }
noncomputable def o52 (P : Params) : Obj := { cls := Value.type "tuple", data := Data.seq #[] }
noncomputable def o53 (P : Params) : Obj := { cls := Value.none, data := Data.fields #[] }
noncomputable def o54 (P : Params) : Obj := { cls := Value.type "tuple", data := Data.seq #[Value.str (Str.ofString "self") 251, Value.str (Str.ofString "what") 252, Value.str (Str.ofString "at") 253] }
noncomputable def o55 (P : Params) : Obj := { cls := Value.type "tuple", data := Data.seq #[] }
noncomputable def o56 (P : Params) : Obj := fnOb (stc 3 0) rfl (Str.ofString "ToolError.__init__") (0) ([]) (Value.none) (Value.none) (Value.none) (Value.none) (none) (Value.none) (Value.none) (0) (Value.none) (none) (#[])
noncomputable def o57 (P : Params) : Obj := { cls := Value.type "code", data := Data.fields #[Value.str (Str.ofString "__init__") 248, Value.str (Str.ofString "ToolError.__init__") 249, Value.str (Str.ofString "/claim/cut.py") 250, Value.int 16 0, Value.int 3 0, Value.int 0 0, Value.int 0 0, Value.int 3 0, Value.ref 58, Value.bool true, Value.int 181 0, Value.ref 59, Value.none, Value.ref 60, Value.ref 61, Value.ref 62, Value.int 254 0, Value.int 16 0, Value.str (Str.ofString "/claim/cut.py") 255] }
noncomputable def o58 (P : Params) : Obj := fnOb (stc 3 0) rfl (Str.ofString "ToolError.__init__") (3) ([]) (Value.ref 57) (Value.none) (Value.none) (Value.str (Str.ofString "grammarmill.source") 194) (none) (Value.ref 63) (Value.none) (0) (Value.type "function") (none) (#[])
noncomputable def o59 (P : Params) : Obj := { cls := Value.type "tuple", data := Data.seq #[] }
noncomputable def o60 (P : Params) : Obj := { cls := Value.none, data := Data.fields #[] }
noncomputable def o61 (P : Params) : Obj := { cls := Value.type "tuple", data := Data.seq #[Value.str (Str.ofString "self") 260] }
noncomputable def o62 (P : Params) : Obj := { cls := Value.type "tuple", data := Data.seq #[] }
noncomputable def o63 (P : Params) : Obj := fnOb (stc 3 1) rfl (Str.ofString "ToolError.told") (0) ([]) (Value.none) (Value.none) (Value.none) (Value.none) (none) (Value.none) (Value.none) (0) (Value.none) (none) (#[])
noncomputable def o64 (P : Params) : Obj := { cls := Value.type "code", data := Data.fields #[Value.str (Str.ofString "told") 257, Value.str (Str.ofString "ToolError.told") 258, Value.str (Str.ofString "/claim/cut.py") 259, Value.int 21 0, Value.int 1 0, Value.int 0 0, Value.int 0 0, Value.int 3 0, Value.ref 65, Value.bool true, Value.int 181 0, Value.ref 66, Value.none, Value.ref 67, Value.ref 68, Value.ref 69, Value.int 261 0, Value.int 21 0, Value.str (Str.ofString "/claim/cut.py") 262] }
noncomputable def o65 (P : Params) : Obj := fnOb (stc 3 1) rfl (Str.ofString "ToolError.told") (3) ([]) (Value.none) (Value.none) (Value.none) (Value.str (Str.ofString "grammarmill.source") 194) (none) (Value.ref 70) (Value.none) (0) (Value.type "function") (none) (#[])
noncomputable def o66 (P : Params) : Obj := { cls := Value.type "tuple", data := Data.seq #[Value.str (Str.ofString "at") 264, Value.str (Str.ofString "what") 265] }
noncomputable def o67 (P : Params) : Obj := { cls := Value.type "dict", data := Data.dict #[{ hash := PyData.keyHash P (Str.ofString "__module__"), key := Value.str (Str.ofString "__module__") 243, val := Value.str (Str.ofString "grammarmill.source") 194 }, { hash := PyData.keyHash P (Str.ofString "__firstlineno__"), key := Value.str (Str.ofString "__firstlineno__") 247, val := Value.int 14 246 }, { hash := PyData.keyHash P (Str.ofString "__init__"), key := Value.str (Str.ofString "__init__") 256, val := Value.ref 64 }, { hash := PyData.keyHash P (Str.ofString "told"), key := Value.str (Str.ofString "told") 263, val := Value.ref 71 }, { hash := PyData.keyHash P (Str.ofString "__static_attributes__"), key := Value.str (Str.ofString "__static_attributes__") 266, val := Value.ref 72 }, { hash := PyData.keyHash P (Str.ofString "__weakref__"), key := Value.str (Str.ofString "__weakref__") 268, val := Value.ref 75 }, { hash := PyData.keyHash P (Str.ofString "__doc__"), key := Value.str (Str.ofString "__doc__") 269, val := Value.none }] 3 }
noncomputable def o68 (P : Params) : Obj := { cls := Value.type "type", data := Data.cls { name := Str.ofString "ToolError", bases := [Value.type "Exception"], mro := [Value.ref 74, Value.type "Exception", Value.type "BaseException", Value.type "object"], ns := 73, qualname := Str.ofString "ToolError" }, slots := #[some (Value.ref 50), none, some (Value.str (Str.ofString "ToolError") 236), some (Value.str (Str.ofString "ToolError") 244), some (Value.builtin "Exception.__new__"), some (Value.bool true)] }
noncomputable def o69 (P : Params) : Obj := { cls := Value.type "getset_descriptor", data := Data.fields #[Value.str (Str.ofString "__weakref__") 267, Value.ref 74, Value.builtin "ExceptionGroup.__weakref__", Value.none] }
noncomputable def o70 (P : Params) : Obj := { cls := Value.type "super", data := Data.fields #[Value.ref 74, Value.ref 74, Value.ref 74] }
noncomputable def o71 (P : Params) : Obj := { cls := Value.type "builtin_function_or_method", data := Data.fields #[Value.builtin "object.__init_subclass__", Value.ref 74] }
noncomputable def o72 (P : Params) : Obj := { cls := Value.type "dict", data := Data.dict #[{ hash := PyData.keyHash P (Str.ofString "__name__"), key := Value.str (Str.ofString "__name__") 165, val := Value.str (Str.ofString "grammarmill.source") 194 }, { hash := PyData.keyHash P (Str.ofString "__doc__"), key := Value.str (Str.ofString "__doc__") 166, val := Value.none }, { hash := PyData.keyHash P (Str.ofString "__package__"), key := Value.str (Str.ofString "__package__") 167, val := Value.none }, { hash := PyData.keyHash P (Str.ofString "__loader__"), key := Value.str (Str.ofString "__loader__") 168, val := Value.builtin "__main__.__loader__#opaque" }, { hash := PyData.keyHash P (Str.ofString "__spec__"), key := Value.str (Str.ofString "__spec__") 169, val := Value.none }, { hash := PyData.keyHash P (Str.ofString "__annotations__"), key := Value.str (Str.ofString "__annotations__") 170, val := Value.ref 6 }, { hash := PyData.keyHash P (Str.ofString "__builtins__"), key := Value.str (Str.ofString "__builtins__") 171, val := Value.ref 4 }, { hash := PyData.keyHash P (Str.ofString "__file__"), key := Value.str (Str.ofString "__file__") 173, val := Value.str (Str.ofString "/claim/cut.py") 172 }, { hash := PyData.keyHash P (Str.ofString "__cached__"), key := Value.str (Str.ofString "__cached__") 174, val := Value.none }, { hash := PyData.keyHash P (Str.ofString "_wall"), key := Value.str (Str.ofString "_wall") 193, val := Value.ref 21 }, { hash := PyData.keyHash P (Str.ofString "Position"), key := Value.str (Str.ofString "Position") 235, val := Value.ref 45 }, { hash := PyData.keyHash P (Str.ofString "ToolError"), key := Value.str (Str.ofString "ToolError") 273, val := Value.ref 74 }, { hash := PyData.keyHash P (Str.ofString "GrammarError"), key := Value.str (Str.ofString "GrammarError") 289, val := Value.ref 87 }] 13 }
noncomputable def o73 (P : Params) : Obj := { cls := Value.none, data := Data.fields #[Value.int 1 0, Value.int 0 0, Value.ref 20, Value.int 5 0, Value.int 0 0, Value.ref 27, Value.int 14 0, Value.int 0 0, Value.ref 55, Value.int 25 0, Value.int 0 0, Value.ref 83] }
noncomputable def o74 (P : Params) : Obj := { cls := Value.type "type", data := Data.cls { name := Str.ofString "ToolError", bases := [Value.type "Exception"], mro := [Value.ref 74, Value.type "Exception", Value.type "BaseException", Value.type "object"], ns := 73, qualname := Str.ofString "ToolError", subclasses := [Value.ref 87] }, slots := #[some (Value.ref 50), none, some (Value.str (Str.ofString "ToolError") 236), some (Value.str (Str.ofString "ToolError") 244), some (Value.builtin "Exception.__new__"), some (Value.bool true)] }
noncomputable def o75 (P : Params) : Obj := { cls := Value.type "tuple", data := Data.seq #[Value.ref 74] }
noncomputable def o76 (P : Params) : Obj := { cls := Value.type "builtin_function_or_method", data := Data.fields #[Value.builtin "type.__prepare__", Value.type "type"] }
noncomputable def o77 (P : Params) : Obj := { cls := Value.type "dict", data := Data.dict #[{ hash := PyData.keyHash P (Str.ofString "__module__"), key := Value.str (Str.ofString "__module__") 281, val := Value.str (Str.ofString "grammarmill.source") 194 }, { hash := PyData.keyHash P (Str.ofString "__qualname__"), key := Value.str (Str.ofString "__qualname__") 283, val := Value.str (Str.ofString "GrammarError") 282 }, { hash := PyData.keyHash P (Str.ofString "__firstlineno__"), key := Value.str (Str.ofString "__firstlineno__") 285, val := Value.int 25 284 }, { hash := PyData.keyHash P (Str.ofString "__static_attributes__"), key := Value.str (Str.ofString "__static_attributes__") 286, val := Value.ref 85 }] 4 }
noncomputable def o78 (P : Params) : Obj := { cls := Value.type "tuple", data := Data.seq #[] }
noncomputable def o79 (P : Params) : Obj := { cls := Value.none, data := Data.fields #[] }
noncomputable def o80 (P : Params) : Obj := { cls := Value.type "code", data := Data.fields #[Value.str (Str.ofString "GrammarError") 276, Value.str (Str.ofString "GrammarError") 277, Value.str (Str.ofString "/claim/cut.py") 278, Value.int 25 0, Value.int 0 0, Value.int 0 0, Value.int 0 0, Value.int 0 0, Value.ref 81, Value.bool false, Value.int 181 0, Value.ref 82, Value.none, Value.none, Value.none, Value.none, Value.int 279 0, Value.int 25 0, Value.str (Str.ofString "/claim/cut.py") 280] }
noncomputable def o81 (P : Params) : Obj := { cls := Value.type "frame", slots := #[some (Value.ref 83), some (Value.ref 3), some (Value.ref 80), none, some (Value.str (Str.ofString "grammarmill.source") 194), none, some (Value.ref 0)] }
noncomputable def o82 (P : Params) : Obj := { cls := Value.type "tuple", data := Data.seq #[] }
noncomputable def o83 (P : Params) : Obj := { cls := Value.type "dict", data := Data.dict #[{ hash := PyData.keyHash P (Str.ofString "__module__"), key := Value.str (Str.ofString "__module__") 281, val := Value.str (Str.ofString "grammarmill.source") 194 }, { hash := PyData.keyHash P (Str.ofString "__firstlineno__"), key := Value.str (Str.ofString "__firstlineno__") 285, val := Value.int 25 284 }, { hash := PyData.keyHash P (Str.ofString "__static_attributes__"), key := Value.str (Str.ofString "__static_attributes__") 286, val := Value.ref 85 }, { hash := PyData.keyHash P (Str.ofString "__doc__"), key := Value.str (Str.ofString "__doc__") 287, val := Value.none }] 2 }
noncomputable def o84 (P : Params) : Obj := { cls := Value.type "type", data := Data.cls { name := Str.ofString "GrammarError", bases := [Value.ref 74], mro := [Value.ref 87, Value.ref 74, Value.type "Exception", Value.type "BaseException", Value.type "object"], ns := 86, qualname := Str.ofString "GrammarError" }, slots := #[some (Value.ref 78), none, some (Value.str (Str.ofString "GrammarError") 274), some (Value.str (Str.ofString "GrammarError") 282), some (Value.builtin "Exception.__new__"), some (Value.bool true)] }
noncomputable def o85 (P : Params) : Obj := { cls := Value.type "super", data := Data.fields #[Value.ref 87, Value.ref 87, Value.ref 87] }
noncomputable def o86 (P : Params) : Obj := { cls := Value.type "builtin_function_or_method", data := Data.fields #[Value.builtin "object.__init_subclass__", Value.ref 87] }
noncomputable def o87 (P : Params) : Obj := { cls := Value.type "dict", data := Data.dict #[{ hash := PyData.keyHash P (Str.ofString "__name__"), key := Value.str (Str.ofString "__name__") 165, val := Value.str (Str.ofString "grammarmill.gramread") 339 }, { hash := PyData.keyHash P (Str.ofString "__doc__"), key := Value.str (Str.ofString "__doc__") 166, val := Value.none }, { hash := PyData.keyHash P (Str.ofString "__package__"), key := Value.str (Str.ofString "__package__") 167, val := Value.none }, { hash := PyData.keyHash P (Str.ofString "__loader__"), key := Value.str (Str.ofString "__loader__") 168, val := Value.builtin "__main__.__loader__#opaque" }, { hash := PyData.keyHash P (Str.ofString "__spec__"), key := Value.str (Str.ofString "__spec__") 169, val := Value.none }, { hash := PyData.keyHash P (Str.ofString "__annotations__"), key := Value.str (Str.ofString "__annotations__") 170, val := Value.ref 6 }, { hash := PyData.keyHash P (Str.ofString "__builtins__"), key := Value.str (Str.ofString "__builtins__") 171, val := Value.ref 4 }, { hash := PyData.keyHash P (Str.ofString "__file__"), key := Value.str (Str.ofString "__file__") 173, val := Value.str (Str.ofString "/claim/cut.py") 172 }, { hash := PyData.keyHash P (Str.ofString "__cached__"), key := Value.str (Str.ofString "__cached__") 174, val := Value.none }, { hash := PyData.keyHash P (Str.ofString "_wall"), key := Value.str (Str.ofString "_wall") 193, val := Value.ref 21 }, { hash := PyData.keyHash P (Str.ofString "Position"), key := Value.str (Str.ofString "Position") 235, val := Value.ref 45 }, { hash := PyData.keyHash P (Str.ofString "ToolError"), key := Value.str (Str.ofString "ToolError") 273, val := Value.ref 74 }, { hash := PyData.keyHash P (Str.ofString "GrammarError"), key := Value.str (Str.ofString "GrammarError") 289, val := Value.ref 87 }, { hash := PyData.keyHash P (Str.ofString "Token"), key := Value.str (Str.ofString "Token") 338, val := Value.ref 121 }, { hash := PyData.keyHash P (Str.ofString "SYM_KINDS"), key := Value.str (Str.ofString "SYM_KINDS") 344, val := Value.ref 126 }, { hash := PyData.keyHash P (Str.ofString "PART_WORDS"), key := Value.str (Str.ofString "PART_WORDS") 357, val := Value.ref 127 }] 16 }
noncomputable def o88 (P : Params) : Obj := { cls := Value.none, data := Data.fields #[Value.int 1 0, Value.int 0 0, Value.ref 20, Value.int 5 0, Value.int 0 0, Value.ref 27, Value.int 14 0, Value.int 0 0, Value.ref 55, Value.int 25 0, Value.int 0 0, Value.ref 83, Value.int 27 0, Value.int 0 0, Value.ref 95] }
noncomputable def o89 (P : Params) : Obj := { cls := Value.type "tuple", data := Data.seq #[] }
noncomputable def o90 (P : Params) : Obj := { cls := Value.type "builtin_function_or_method", data := Data.fields #[Value.builtin "type.__prepare__", Value.type "type"] }
noncomputable def o91 (P : Params) : Obj := { cls := Value.type "dict", data := Data.dict #[{ hash := PyData.keyHash P (Str.ofString "__module__"), key := Value.str (Str.ofString "__module__") 297, val := Value.str (Str.ofString "grammarmill.source") 194 }, { hash := PyData.keyHash P (Str.ofString "__qualname__"), key := Value.str (Str.ofString "__qualname__") 299, val := Value.str (Str.ofString "Token") 298 }, { hash := PyData.keyHash P (Str.ofString "__firstlineno__"), key := Value.str (Str.ofString "__firstlineno__") 301, val := Value.int 27 300 }, { hash := PyData.keyHash P (Str.ofString "__init__"), key := Value.str (Str.ofString "__init__") 312, val := Value.ref 104 }, { hash := PyData.keyHash P (Str.ofString "told"), key := Value.str (Str.ofString "told") 319, val := Value.ref 111 }, { hash := PyData.keyHash P (Str.ofString "is_end"), key := Value.str (Str.ofString "is_end") 326, val := Value.ref 118 }, { hash := PyData.keyHash P (Str.ofString "__static_attributes__"), key := Value.str (Str.ofString "__static_attributes__") 331, val := Value.ref 119 }] 7 }
noncomputable def o92 (P : Params) : Obj := { cls := Value.type "tuple", data := Data.seq #[] }
noncomputable def o93 (P : Params) : Obj := { cls := Value.none, data := Data.fields #[Value.int 29 0, Value.int 4 0, Value.ref 103, Value.int 35 0, Value.int 4 0, Value.ref 110, Value.int 38 0, Value.int 4 0, Value.ref 117] }
noncomputable def o94 (P : Params) : Obj := { cls := Value.type "code", data := Data.fields #[Value.str (Str.ofString "Token") 292, Value.str (Str.ofString "Token") 293, Value.str (Str.ofString "/claim/cut.py") 294, Value.int 27 0, Value.int 0 0, Value.int 0 0, Value.int 0 0, Value.int 0 0, Value.ref 93, Value.bool false, Value.int 181 0, Value.ref 94, Value.none, Value.none, Value.none, Value.none, Value.int 295 0, Value.int 27 0, Value.str (Str.ofString "/claim/cut.py") 296] }
noncomputable def o95 (P : Params) : Obj := { cls := Value.type "frame", slots := #[some (Value.ref 95), some (Value.ref 3), some (Value.ref 92), none, some (Value.str (Str.ofString "grammarmill.source") 194), none, some (Value.ref 0)] }
noncomputable def o96 (P : Params) : Obj := { cls := Value.type "tuple", data := Data.seq #[Value.none] }
noncomputable def o97 (P : Params) : Obj := { cls := Value.type "tuple", data := Data.seq #[] }
noncomputable def o98 (P : Params) : Obj := { cls := Value.none, data := Data.fields #[] }
noncomputable def o99 (P : Params) : Obj := { cls := Value.type "tuple", data := Data.seq #[Value.str (Str.ofString "self") 305, Value.str (Str.ofString "kind") 306, Value.str (Str.ofString "text") 307, Value.str (Str.ofString "at") 308, Value.str (Str.ofString "worth") 309] }
noncomputable def o100 (P : Params) : Obj := { cls := Value.type "tuple", data := Data.seq #[] }
noncomputable def o101 (P : Params) : Obj := fnOb (stc 5 0) rfl (Str.ofString "Token.__init__") (0) ([]) (Value.none) (Value.none) (Value.none) (Value.none) (none) (Value.none) (Value.none) (0) (Value.none) (none) (#[])
noncomputable def o102 (P : Params) : Obj := { cls := Value.type "code", data := Data.fields #[Value.str (Str.ofString "__init__") 302, Value.str (Str.ofString "Token.__init__") 303, Value.str (Str.ofString "/claim/cut.py") 304, Value.int 29 0, Value.int 5 0, Value.int 0 0, Value.int 0 0, Value.int 3 0, Value.ref 98, Value.bool true, Value.int 181 0, Value.ref 99, Value.none, Value.ref 100, Value.ref 101, Value.ref 102, Value.int 310 0, Value.int 29 0, Value.str (Str.ofString "/claim/cut.py") 311] }
noncomputable def o103 (P : Params) : Obj := fnOb (stc 5 0) rfl (Str.ofString "Token.__init__") (3) ([]) (Value.ref 97) (Value.none) (Value.none) (Value.str (Str.ofString "grammarmill.source") 194) (none) (Value.ref 103) (Value.none) (0) (Value.type "function") (none) (#[])
noncomputable def o104 (P : Params) : Obj := { cls := Value.type "tuple", data := Data.seq #[] }
noncomputable def o105 (P : Params) : Obj := { cls := Value.none, data := Data.fields #[] }
noncomputable def o106 (P : Params) : Obj := { cls := Value.type "tuple", data := Data.seq #[Value.str (Str.ofString "self") 316] }
noncomputable def o107 (P : Params) : Obj := { cls := Value.type "tuple", data := Data.seq #[] }
noncomputable def o108 (P : Params) : Obj := fnOb (stc 5 1) rfl (Str.ofString "Token.told") (0) ([]) (Value.none) (Value.none) (Value.none) (Value.none) (none) (Value.none) (Value.none) (0) (Value.none) (none) (#[])
noncomputable def o109 (P : Params) : Obj := { cls := Value.type "code", data := Data.fields #[Value.str (Str.ofString "told") 313, Value.str (Str.ofString "Token.told") 314, Value.str (Str.ofString "/claim/cut.py") 315, Value.int 35 0, Value.int 1 0, Value.int 0 0, Value.int 0 0, Value.int 3 0, Value.ref 105, Value.bool true, Value.int 181 0, Value.ref 106, Value.none, Value.ref 107, Value.ref 108, Value.ref 109, Value.int 317 0, Value.int 35 0, Value.str (Str.ofString "/claim/cut.py") 318] }
noncomputable def o110 (P : Params) : Obj := fnOb (stc 5 1) rfl (Str.ofString "Token.told") (3) ([]) (Value.none) (Value.none) (Value.none) (Value.str (Str.ofString "grammarmill.source") 194) (none) (Value.ref 110) (Value.none) (0) (Value.type "function") (none) (#[])
noncomputable def o111 (P : Params) : Obj := { cls := Value.type "tuple", data := Data.seq #[] }
noncomputable def o112 (P : Params) : Obj := { cls := Value.none, data := Data.fields #[] }
noncomputable def o113 (P : Params) : Obj := { cls := Value.type "tuple", data := Data.seq #[Value.str (Str.ofString "self") 323] }
noncomputable def o114 (P : Params) : Obj := { cls := Value.type "tuple", data := Data.seq #[] }
noncomputable def o115 (P : Params) : Obj := fnOb (stc 5 2) rfl (Str.ofString "Token.is_end") (0) ([]) (Value.none) (Value.none) (Value.none) (Value.none) (none) (Value.none) (Value.none) (0) (Value.none) (none) (#[])
noncomputable def o116 (P : Params) : Obj := { cls := Value.type "code", data := Data.fields #[Value.str (Str.ofString "is_end") 320, Value.str (Str.ofString "Token.is_end") 321, Value.str (Str.ofString "/claim/cut.py") 322, Value.int 38 0, Value.int 1 0, Value.int 0 0, Value.int 0 0, Value.int 3 0, Value.ref 112, Value.bool true, Value.int 181 0, Value.ref 113, Value.none, Value.ref 114, Value.ref 115, Value.ref 116, Value.int 324 0, Value.int 38 0, Value.str (Str.ofString "/claim/cut.py") 325] }
noncomputable def o117 (P : Params) : Obj := fnOb (stc 5 2) rfl (Str.ofString "Token.is_end") (3) ([]) (Value.none) (Value.none) (Value.none) (Value.str (Str.ofString "grammarmill.source") 194) (none) (Value.ref 117) (Value.none) (0) (Value.type "function") (none) (#[])
noncomputable def o118 (P : Params) : Obj := { cls := Value.type "tuple", data := Data.seq #[Value.str (Str.ofString "at") 327, Value.str (Str.ofString "kind") 328, Value.str (Str.ofString "text") 329, Value.str (Str.ofString "worth") 330] }
noncomputable def o119 (P : Params) : Obj := { cls := Value.type "dict", data := Data.dict #[{ hash := PyData.keyHash P (Str.ofString "__module__"), key := Value.str (Str.ofString "__module__") 297, val := Value.str (Str.ofString "grammarmill.source") 194 }, { hash := PyData.keyHash P (Str.ofString "__firstlineno__"), key := Value.str (Str.ofString "__firstlineno__") 301, val := Value.int 27 300 }, { hash := PyData.keyHash P (Str.ofString "__init__"), key := Value.str (Str.ofString "__init__") 312, val := Value.ref 104 }, { hash := PyData.keyHash P (Str.ofString "told"), key := Value.str (Str.ofString "told") 319, val := Value.ref 111 }, { hash := PyData.keyHash P (Str.ofString "is_end"), key := Value.str (Str.ofString "is_end") 326, val := Value.ref 118 }, { hash := PyData.keyHash P (Str.ofString "__static_attributes__"), key := Value.str (Str.ofString "__static_attributes__") 331, val := Value.ref 119 }, { hash := PyData.keyHash P (Str.ofString "__dict__"), key := Value.str (Str.ofString "__dict__") 333, val := Value.ref 122 }, { hash := PyData.keyHash P (Str.ofString "__weakref__"), key := Value.str (Str.ofString "__weakref__") 335, val := Value.ref 123 }, { hash := PyData.keyHash P (Str.ofString "__doc__"), key := Value.str (Str.ofString "__doc__") 336, val := Value.none }] 4 }
noncomputable def o120 (P : Params) : Obj := { cls := Value.type "type", data := Data.cls { name := Str.ofString "Token", bases := [Value.type "object"], mro := [Value.ref 121, Value.type "object"], ns := 120, qualname := Str.ofString "Token" }, slots := #[none, none, some (Value.str (Str.ofString "Token") 290), some (Value.str (Str.ofString "Token") 298), some (Value.builtin "object.__new__"), some (Value.bool true)] }
noncomputable def o121 (P : Params) : Obj := { cls := Value.type "getset_descriptor", data := Data.fields #[Value.str (Str.ofString "__dict__") 332, Value.ref 121, Value.builtin "function.__dict__", Value.builtin "function.__dict__#set"] }
noncomputable def o122 (P : Params) : Obj := { cls := Value.type "getset_descriptor", data := Data.fields #[Value.str (Str.ofString "__weakref__") 334, Value.ref 121, Value.builtin "ExceptionGroup.__weakref__", Value.none] }
noncomputable def o123 (P : Params) : Obj := { cls := Value.type "super", data := Data.fields #[Value.ref 121, Value.ref 121, Value.ref 121] }
noncomputable def o124 (P : Params) : Obj := { cls := Value.type "builtin_function_or_method", data := Data.fields #[Value.builtin "object.__init_subclass__", Value.ref 121] }
noncomputable def o125 (P : Params) : Obj := { cls := Value.type "tuple", data := Data.seq #[Value.str (Str.ofString "NAME") 341, Value.str (Str.ofString "LITERAL") 342, Value.str (Str.ofString "NUMBER") 343] }
noncomputable def o126 (P : Params) : Obj := { cls := Value.type "dict", data := Data.dict #[{ hash := PyData.keyHash P (Str.ofString "NAME"), key := Value.str (Str.ofString "NAME") 345, val := Value.str (Str.ofString "sym") 346 }, { hash := PyData.keyHash P (Str.ofString "LITERAL"), key := Value.str (Str.ofString "LITERAL") 347, val := Value.str (Str.ofString "sym") 348 }, { hash := PyData.keyHash P (Str.ofString "ACTION"), key := Value.str (Str.ofString "ACTION") 349, val := Value.str (Str.ofString "act") 350 }, { hash := PyData.keyHash P (Str.ofString "EMPTY"), key := Value.str (Str.ofString "EMPTY") 351, val := Value.str (Str.ofString "empty") 352 }] 4 }
noncomputable def o127 (P : Params) : Obj := { cls := Value.type "dict", data := Data.dict #[{ hash := PyData.keyHash P (Str.ofString "__name__"), key := Value.str (Str.ofString "__name__") 165, val := Value.str (Str.ofString "grammarmill.gramread") 339 }, { hash := PyData.keyHash P (Str.ofString "__doc__"), key := Value.str (Str.ofString "__doc__") 166, val := Value.none }, { hash := PyData.keyHash P (Str.ofString "__package__"), key := Value.str (Str.ofString "__package__") 167, val := Value.none }, { hash := PyData.keyHash P (Str.ofString "__loader__"), key := Value.str (Str.ofString "__loader__") 168, val := Value.builtin "__main__.__loader__#opaque" }, { hash := PyData.keyHash P (Str.ofString "__spec__"), key := Value.str (Str.ofString "__spec__") 169, val := Value.none }, { hash := PyData.keyHash P (Str.ofString "__annotations__"), key := Value.str (Str.ofString "__annotations__") 170, val := Value.ref 6 }, { hash := PyData.keyHash P (Str.ofString "__builtins__"), key := Value.str (Str.ofString "__builtins__") 171, val := Value.ref 4 }, { hash := PyData.keyHash P (Str.ofString "__file__"), key := Value.str (Str.ofString "__file__") 173, val := Value.str (Str.ofString "/claim/cut.py") 172 }, { hash := PyData.keyHash P (Str.ofString "__cached__"), key := Value.str (Str.ofString "__cached__") 174, val := Value.none }, { hash := PyData.keyHash P (Str.ofString "_wall"), key := Value.str (Str.ofString "_wall") 193, val := Value.ref 21 }, { hash := PyData.keyHash P (Str.ofString "Position"), key := Value.str (Str.ofString "Position") 235, val := Value.ref 45 }, { hash := PyData.keyHash P (Str.ofString "ToolError"), key := Value.str (Str.ofString "ToolError") 273, val := Value.ref 74 }, { hash := PyData.keyHash P (Str.ofString "GrammarError"), key := Value.str (Str.ofString "GrammarError") 289, val := Value.ref 87 }, { hash := PyData.keyHash P (Str.ofString "Token"), key := Value.str (Str.ofString "Token") 338, val := Value.ref 121 }, { hash := PyData.keyHash P (Str.ofString "SYM_KINDS"), key := Value.str (Str.ofString "SYM_KINDS") 344, val := Value.ref 126 }, { hash := PyData.keyHash P (Str.ofString "PART_WORDS"), key := Value.str (Str.ofString "PART_WORDS") 357, val := Value.ref 127 }, { hash := PyData.keyHash P (Str.ofString "GrammarTree"), key := Value.str (Str.ofString "GrammarTree") 394, val := Value.ref 149 }, { hash := PyData.keyHash P (Str.ofString "told_alt"), key := Value.str (Str.ofString "told_alt") 400, val := Value.ref 158 }] 18 }
noncomputable def o128 (P : Params) : Obj := { cls := Value.none, data := Data.fields #[Value.int 1 0, Value.int 0 0, Value.ref 20, Value.int 5 0, Value.int 0 0, Value.ref 27, Value.int 14 0, Value.int 0 0, Value.ref 55, Value.int 25 0, Value.int 0 0, Value.ref 83, Value.int 27 0, Value.int 0 0, Value.ref 95, Value.int 43 0, Value.int 0 0, Value.ref 133, Value.int 53 0, Value.int 0 0, Value.ref 157] }
noncomputable def o129 (P : Params) : Obj := { cls := Value.type "tuple", data := Data.seq #[] }
noncomputable def o130 (P : Params) : Obj := { cls := Value.type "builtin_function_or_method", data := Data.fields #[Value.builtin "type.__prepare__", Value.type "type"] }
noncomputable def o131 (P : Params) : Obj := { cls := Value.type "dict", data := Data.dict #[{ hash := PyData.keyHash P (Str.ofString "__module__"), key := Value.str (Str.ofString "__module__") 365, val := Value.str (Str.ofString "grammarmill.gramread") 339 }, { hash := PyData.keyHash P (Str.ofString "__qualname__"), key := Value.str (Str.ofString "__qualname__") 367, val := Value.str (Str.ofString "GrammarTree") 366 }, { hash := PyData.keyHash P (Str.ofString "__firstlineno__"), key := Value.str (Str.ofString "__firstlineno__") 369, val := Value.int 43 368 }, { hash := PyData.keyHash P (Str.ofString "__init__"), key := Value.str (Str.ofString "__init__") 378, val := Value.ref 141 }, { hash := PyData.keyHash P (Str.ofString "told"), key := Value.str (Str.ofString "told") 384, val := Value.ref 146 }, { hash := PyData.keyHash P (Str.ofString "__static_attributes__"), key := Value.str (Str.ofString "__static_attributes__") 387, val := Value.ref 147 }] 6 }
noncomputable def o132 (P : Params) : Obj := { cls := Value.type "tuple", data := Data.seq #[] }
noncomputable def o133 (P : Params) : Obj := { cls := Value.none, data := Data.fields #[Value.int 45 0, Value.int 4 0, Value.ref 140, Value.int 49 0, Value.int 4 0, Value.ref 145] }
noncomputable def o134 (P : Params) : Obj := { cls := Value.type "code", data := Data.fields #[Value.str (Str.ofString "GrammarTree") 360, Value.str (Str.ofString "GrammarTree") 361, Value.str (Str.ofString "/claim/cut.py") 362, Value.int 43 0, Value.int 0 0, Value.int 0 0, Value.int 0 0, Value.int 0 0, Value.ref 131, Value.bool false, Value.int 181 0, Value.ref 132, Value.none, Value.none, Value.none, Value.none, Value.int 363 0, Value.int 43 0, Value.str (Str.ofString "/claim/cut.py") 364] }
noncomputable def o135 (P : Params) : Obj := { cls := Value.type "frame", slots := #[some (Value.ref 133), some (Value.ref 3), some (Value.ref 130), none, some (Value.str (Str.ofString "grammarmill.gramread") 339), none, some (Value.ref 0)] }
noncomputable def o136 (P : Params) : Obj := { cls := Value.type "tuple", data := Data.seq #[] }
noncomputable def o137 (P : Params) : Obj := { cls := Value.none, data := Data.fields #[] }
noncomputable def o138 (P : Params) : Obj := { cls := Value.type "tuple", data := Data.seq #[Value.str (Str.ofString "self") 373, Value.str (Str.ofString "decls") 374, Value.str (Str.ofString "rules") 375] }
noncomputable def o139 (P : Params) : Obj := { cls := Value.type "tuple", data := Data.seq #[] }
noncomputable def o140 (P : Params) : Obj := fnOb (stc 9 0) rfl (Str.ofString "GrammarTree.__init__") (0) ([]) (Value.none) (Value.none) (Value.none) (Value.none) (none) (Value.none) (Value.none) (0) (Value.none) (none) (#[])
noncomputable def o141 (P : Params) : Obj := { cls := Value.type "code", data := Data.fields #[Value.str (Str.ofString "__init__") 370, Value.str (Str.ofString "GrammarTree.__init__") 371, Value.str (Str.ofString "/claim/cut.py") 372, Value.int 45 0, Value.int 3 0, Value.int 0 0, Value.int 0 0, Value.int 3 0, Value.ref 135, Value.bool true, Value.int 181 0, Value.ref 136, Value.none, Value.ref 137, Value.ref 138, Value.ref 139, Value.int 376 0, Value.int 45 0, Value.str (Str.ofString "/claim/cut.py") 377] }
noncomputable def o142 (P : Params) : Obj := fnOb (stc 9 0) rfl (Str.ofString "GrammarTree.__init__") (3) ([]) (Value.none) (Value.none) (Value.none) (Value.str (Str.ofString "grammarmill.gramread") 339) (none) (Value.ref 140) (Value.none) (0) (Value.type "function") (none) (#[])
noncomputable def o143 (P : Params) : Obj := { cls := Value.type "tuple", data := Data.seq #[] }
noncomputable def o144 (P : Params) : Obj := { cls := Value.none, data := Data.fields #[] }
noncomputable def o145 (P : Params) : Obj := fnOb (stc 9 1) rfl (Str.ofString "GrammarTree.told") (0) ([]) (Value.none) (Value.none) (Value.none) (Value.none) (none) (Value.none) (Value.none) (0) (Value.none) (none) (#[])
noncomputable def o146 (P : Params) : Obj := { cls := Value.type "code", data := Data.fields #[Value.str (Str.ofString "told") 379, Value.str (Str.ofString "GrammarTree.told") 380, Value.str (Str.ofString "/claim/cut.py") 381, Value.int 49 0, Value.int 1 0, Value.int 0 0, Value.int 0 0, Value.int 3 0, Value.ref 142, Value.bool true, Value.int 181 0, Value.ref 143, Value.none, Value.none, Value.none, Value.ref 144, Value.int 382 0, Value.int 49 0, Value.str (Str.ofString "/claim/cut.py") 383] }
noncomputable def o147 (P : Params) : Obj := fnOb (stc 9 1) rfl (Str.ofString "GrammarTree.told") (3) ([]) (Value.none) (Value.none) (Value.none) (Value.str (Str.ofString "grammarmill.gramread") 339) (none) (Value.ref 145) (Value.none) (0) (Value.type "function") (none) (#[])
noncomputable def o148 (P : Params) : Obj := { cls := Value.type "tuple", data := Data.seq #[Value.str (Str.ofString "decls") 385, Value.str (Str.ofString "rules") 386] }
noncomputable def o149 (P : Params) : Obj := { cls := Value.type "dict", data := Data.dict #[{ hash := PyData.keyHash P (Str.ofString "__module__"), key := Value.str (Str.ofString "__module__") 365, val := Value.str (Str.ofString "grammarmill.gramread") 339 }, { hash := PyData.keyHash P (Str.ofString "__firstlineno__"), key := Value.str (Str.ofString "__firstlineno__") 369, val := Value.int 43 368 }, { hash := PyData.keyHash P (Str.ofString "__init__"), key := Value.str (Str.ofString "__init__") 378, val := Value.ref 141 }, { hash := PyData.keyHash P (Str.ofString "told"), key := Value.str (Str.ofString "told") 384, val := Value.ref 146 }, { hash := PyData.keyHash P (Str.ofString "__static_attributes__"), key := Value.str (Str.ofString "__static_attributes__") 387, val := Value.ref 147 }, { hash := PyData.keyHash P (Str.ofString "__dict__"), key := Value.str (Str.ofString "__dict__") 389, val := Value.ref 150 }, { hash := PyData.keyHash P (Str.ofString "__weakref__"), key := Value.str (Str.ofString "__weakref__") 391, val := Value.ref 151 }, { hash := PyData.keyHash P (Str.ofString "__doc__"), key := Value.str (Str.ofString "__doc__") 392, val := Value.none }] 4 }
noncomputable def o150 (P : Params) : Obj := { cls := Value.type "type", data := Data.cls { name := Str.ofString "GrammarTree", bases := [Value.type "object"], mro := [Value.ref 149, Value.type "object"], ns := 148, qualname := Str.ofString "GrammarTree" }, slots := #[none, none, some (Value.str (Str.ofString "GrammarTree") 358), some (Value.str (Str.ofString "GrammarTree") 366), some (Value.builtin "object.__new__"), some (Value.bool true)] }
noncomputable def o151 (P : Params) : Obj := { cls := Value.type "getset_descriptor", data := Data.fields #[Value.str (Str.ofString "__dict__") 388, Value.ref 149, Value.builtin "function.__dict__", Value.builtin "function.__dict__#set"] }
noncomputable def o152 (P : Params) : Obj := { cls := Value.type "getset_descriptor", data := Data.fields #[Value.str (Str.ofString "__weakref__") 390, Value.ref 149, Value.builtin "ExceptionGroup.__weakref__", Value.none] }
noncomputable def o153 (P : Params) : Obj := { cls := Value.type "super", data := Data.fields #[Value.ref 149, Value.ref 149, Value.ref 149] }
noncomputable def o154 (P : Params) : Obj := { cls := Value.type "builtin_function_or_method", data := Data.fields #[Value.builtin "object.__init_subclass__", Value.ref 149] }
noncomputable def o155 (P : Params) : Obj := { cls := Value.type "tuple", data := Data.seq #[] }
noncomputable def o156 (P : Params) : Obj := { cls := Value.none, data := Data.fields #[] }
noncomputable def o157 (P : Params) : Obj := fnOb (stm 10) rfl (Str.ofString "told_alt") (0) ([]) (Value.none) (Value.none) (Value.none) (Value.none) (none) (Value.none) (Value.none) (0) (Value.none) (none) (#[])
noncomputable def o158 (P : Params) : Obj := { cls := Value.type "code", data := Data.fields #[Value.str (Str.ofString "told_alt") 395, Value.str (Str.ofString "told_alt") 396, Value.str (Str.ofString "/claim/cut.py") 397, Value.int 53 0, Value.int 1 0, Value.int 0 0, Value.int 0 0, Value.int 3 0, Value.ref 154, Value.bool true, Value.int 181 0, Value.ref 155, Value.none, Value.none, Value.none, Value.ref 156, Value.int 398 0, Value.int 53 0, Value.str (Str.ofString "/claim/cut.py") 399] }
noncomputable def o159 (P : Params) : Obj := fnOb (stm 10) rfl (Str.ofString "told_alt") (3) ([]) (Value.none) (Value.none) (Value.none) (Value.str (Str.ofString "grammarmill.gramread") 339) (none) (Value.ref 157) (Value.none) (0) (Value.type "function") (none) (#[])
noncomputable def o160 (P : Params) : Obj := { cls := Value.type "dict", data := Data.dict #[{ hash := PyData.keyHash P (Str.ofString "__name__"), key := Value.str (Str.ofString "__name__") 165, val := Value.str (Str.ofString "grammarmill.gramread") 339 }, { hash := PyData.keyHash P (Str.ofString "__doc__"), key := Value.str (Str.ofString "__doc__") 166, val := Value.none }, { hash := PyData.keyHash P (Str.ofString "__package__"), key := Value.str (Str.ofString "__package__") 167, val := Value.none }, { hash := PyData.keyHash P (Str.ofString "__loader__"), key := Value.str (Str.ofString "__loader__") 168, val := Value.builtin "__main__.__loader__#opaque" }, { hash := PyData.keyHash P (Str.ofString "__spec__"), key := Value.str (Str.ofString "__spec__") 169, val := Value.none }, { hash := PyData.keyHash P (Str.ofString "__annotations__"), key := Value.str (Str.ofString "__annotations__") 170, val := Value.ref 6 }, { hash := PyData.keyHash P (Str.ofString "__builtins__"), key := Value.str (Str.ofString "__builtins__") 171, val := Value.ref 4 }, { hash := PyData.keyHash P (Str.ofString "__file__"), key := Value.str (Str.ofString "__file__") 173, val := Value.str (Str.ofString "/claim/cut.py") 172 }, { hash := PyData.keyHash P (Str.ofString "__cached__"), key := Value.str (Str.ofString "__cached__") 174, val := Value.none }, { hash := PyData.keyHash P (Str.ofString "_wall"), key := Value.str (Str.ofString "_wall") 193, val := Value.ref 21 }, { hash := PyData.keyHash P (Str.ofString "Position"), key := Value.str (Str.ofString "Position") 235, val := Value.ref 45 }, { hash := PyData.keyHash P (Str.ofString "ToolError"), key := Value.str (Str.ofString "ToolError") 273, val := Value.ref 74 }, { hash := PyData.keyHash P (Str.ofString "GrammarError"), key := Value.str (Str.ofString "GrammarError") 289, val := Value.ref 87 }, { hash := PyData.keyHash P (Str.ofString "Token"), key := Value.str (Str.ofString "Token") 338, val := Value.ref 121 }, { hash := PyData.keyHash P (Str.ofString "SYM_KINDS"), key := Value.str (Str.ofString "SYM_KINDS") 344, val := Value.ref 126 }, { hash := PyData.keyHash P (Str.ofString "PART_WORDS"), key := Value.str (Str.ofString "PART_WORDS") 357, val := Value.ref 127 }, { hash := PyData.keyHash P (Str.ofString "GrammarTree"), key := Value.str (Str.ofString "GrammarTree") 394, val := Value.ref 149 }, { hash := PyData.keyHash P (Str.ofString "told_alt"), key := Value.str (Str.ofString "told_alt") 400, val := Value.ref 158 }, { hash := PyData.keyHash P (Str.ofString "TreeReader"), key := Value.str (Str.ofString "TreeReader") 498, val := Value.ref 231 }] 19 }
noncomputable def o161 (P : Params) : Obj := { cls := Value.none, data := Data.fields #[Value.int 1 0, Value.int 0 0, Value.ref 20, Value.int 5 0, Value.int 0 0, Value.ref 27, Value.int 14 0, Value.int 0 0, Value.ref 55, Value.int 25 0, Value.int 0 0, Value.ref 83, Value.int 27 0, Value.int 0 0, Value.ref 95, Value.int 43 0, Value.int 0 0, Value.ref 133, Value.int 53 0, Value.int 0 0, Value.ref 157, Value.int 56 0, Value.int 0 0, Value.ref 164] }
noncomputable def o162 (P : Params) : Obj := { cls := Value.type "tuple", data := Data.seq #[] }
noncomputable def o163 (P : Params) : Obj := { cls := Value.type "builtin_function_or_method", data := Data.fields #[Value.builtin "type.__prepare__", Value.type "type"] }
noncomputable def o164 (P : Params) : Obj := { cls := Value.type "dict", data := Data.dict #[{ hash := PyData.keyHash P (Str.ofString "__module__"), key := Value.str (Str.ofString "__module__") 408, val := Value.str (Str.ofString "grammarmill.gramread") 339 }, { hash := PyData.keyHash P (Str.ofString "__qualname__"), key := Value.str (Str.ofString "__qualname__") 410, val := Value.str (Str.ofString "TreeReader") 409 }, { hash := PyData.keyHash P (Str.ofString "__firstlineno__"), key := Value.str (Str.ofString "__firstlineno__") 412, val := Value.int 56 411 }, { hash := PyData.keyHash P (Str.ofString "__init__"), key := Value.str (Str.ofString "__init__") 420, val := Value.ref 172 }, { hash := PyData.keyHash P (Str.ofString "kind"), key := Value.str (Str.ofString "kind") 427, val := Value.ref 179 }, { hash := PyData.keyHash P (Str.ofString "take"), key := Value.str (Str.ofString "take") 435, val := Value.ref 186 }, { hash := PyData.keyHash P (Str.ofString "refuse"), key := Value.str (Str.ofString "refuse") 443, val := Value.ref 193 }, { hash := PyData.keyHash P (Str.ofString "file"), key := Value.str (Str.ofString "file") 452, val := Value.ref 200 }, { hash := PyData.keyHash P (Str.ofString "decl"), key := Value.str (Str.ofString "decl") 461, val := Value.ref 207 }, { hash := PyData.keyHash P (Str.ofString "rule"), key := Value.str (Str.ofString "rule") 470, val := Value.ref 214 }, { hash := PyData.keyHash P (Str.ofString "alt"), key := Value.str (Str.ofString "alt") 479, val := Value.ref 221 }, { hash := PyData.keyHash P (Str.ofString "part"), key := Value.str (Str.ofString "part") 488, val := Value.ref 228 }, { hash := PyData.keyHash P (Str.ofString "__static_attributes__"), key := Value.str (Str.ofString "__static_attributes__") 491, val := Value.ref 229 }] 13 }
noncomputable def o165 (P : Params) : Obj := { cls := Value.type "tuple", data := Data.seq #[] }
noncomputable def o166 (P : Params) : Obj := { cls := Value.none, data := Data.fields #[Value.int 58 0, Value.int 4 0, Value.ref 171, Value.int 62 0, Value.int 4 0, Value.ref 178, Value.int 65 0, Value.int 4 0, Value.ref 185, Value.int 70 0, Value.int 4 0, Value.ref 192, Value.int 74 0, Value.int 4 0, Value.ref 199, Value.int 92 0, Value.int 4 0, Value.ref 206, Value.int 101 0, Value.int 4 0, Value.ref 213, Value.int 111 0, Value.int 4 0, Value.ref 220, Value.int 125 0, Value.int 4 0, Value.ref 227] }
noncomputable def o167 (P : Params) : Obj := { cls := Value.type "code", data := Data.fields #[Value.str (Str.ofString "TreeReader") 403, Value.str (Str.ofString "TreeReader") 404, Value.str (Str.ofString "/claim/cut.py") 405, Value.int 56 0, Value.int 0 0, Value.int 0 0, Value.int 0 0, Value.int 0 0, Value.ref 162, Value.bool false, Value.int 181 0, Value.ref 163, Value.none, Value.none, Value.none, Value.none, Value.int 406 0, Value.int 56 0, Value.str (Str.ofString "/claim/cut.py") 407] }
noncomputable def o168 (P : Params) : Obj := { cls := Value.type "frame", slots := #[some (Value.ref 164), some (Value.ref 3), some (Value.ref 161), none, some (Value.str (Str.ofString "grammarmill.gramread") 339), none, some (Value.ref 0)] }
noncomputable def o169 (P : Params) : Obj := { cls := Value.type "tuple", data := Data.seq #[] }
noncomputable def o170 (P : Params) : Obj := { cls := Value.none, data := Data.fields #[] }
noncomputable def o171 (P : Params) : Obj := { cls := Value.type "tuple", data := Data.seq #[Value.str (Str.ofString "self") 416, Value.str (Str.ofString "tokens") 417] }
noncomputable def o172 (P : Params) : Obj := { cls := Value.type "tuple", data := Data.seq #[] }
noncomputable def o173 (P : Params) : Obj := fnOb (stc 11 0) rfl (Str.ofString "TreeReader.__init__") (0) ([]) (Value.none) (Value.none) (Value.none) (Value.none) (none) (Value.none) (Value.none) (0) (Value.none) (none) (#[])
noncomputable def o174 (P : Params) : Obj := { cls := Value.type "code", data := Data.fields #[Value.str (Str.ofString "__init__") 413, Value.str (Str.ofString "TreeReader.__init__") 414, Value.str (Str.ofString "/claim/cut.py") 415, Value.int 58 0, Value.int 2 0, Value.int 0 0, Value.int 0 0, Value.int 3 0, Value.ref 166, Value.bool true, Value.int 181 0, Value.ref 167, Value.none, Value.ref 168, Value.ref 169, Value.ref 170, Value.int 418 0, Value.int 58 0, Value.str (Str.ofString "/claim/cut.py") 419] }
noncomputable def o175 (P : Params) : Obj := fnOb (stc 11 0) rfl (Str.ofString "TreeReader.__init__") (3) ([]) (Value.none) (Value.none) (Value.none) (Value.str (Str.ofString "grammarmill.gramread") 339) (none) (Value.ref 171) (Value.none) (0) (Value.type "function") (none) (#[])
noncomputable def o176 (P : Params) : Obj := { cls := Value.type "tuple", data := Data.seq #[] }
noncomputable def o177 (P : Params) : Obj := { cls := Value.none, data := Data.fields #[] }
noncomputable def o178 (P : Params) : Obj := { cls := Value.type "tuple", data := Data.seq #[Value.str (Str.ofString "self") 424] }
noncomputable def o179 (P : Params) : Obj := { cls := Value.type "tuple", data := Data.seq #[] }
noncomputable def o180 (P : Params) : Obj := fnOb (stc 11 1) rfl (Str.ofString "TreeReader.kind") (0) ([]) (Value.none) (Value.none) (Value.none) (Value.none) (none) (Value.none) (Value.none) (0) (Value.none) (none) (#[])
noncomputable def o181 (P : Params) : Obj := { cls := Value.type "code", data := Data.fields #[Value.str (Str.ofString "kind") 421, Value.str (Str.ofString "TreeReader.kind") 422, Value.str (Str.ofString "/claim/cut.py") 423, Value.int 62 0, Value.int 1 0, Value.int 0 0, Value.int 0 0, Value.int 3 0, Value.ref 173, Value.bool true, Value.int 181 0, Value.ref 174, Value.none, Value.ref 175, Value.ref 176, Value.ref 177, Value.int 425 0, Value.int 62 0, Value.str (Str.ofString "/claim/cut.py") 426] }
noncomputable def o182 (P : Params) : Obj := fnOb (stc 11 1) rfl (Str.ofString "TreeReader.kind") (3) ([]) (Value.none) (Value.none) (Value.none) (Value.str (Str.ofString "grammarmill.gramread") 339) (none) (Value.ref 178) (Value.none) (0) (Value.type "function") (none) (#[])
noncomputable def o183 (P : Params) : Obj := { cls := Value.type "tuple", data := Data.seq #[] }
noncomputable def o184 (P : Params) : Obj := { cls := Value.none, data := Data.fields #[] }
noncomputable def o185 (P : Params) : Obj := { cls := Value.type "tuple", data := Data.seq #[Value.str (Str.ofString "self") 431, Value.str (Str.ofString "worth") 432] }
noncomputable def o186 (P : Params) : Obj := { cls := Value.type "tuple", data := Data.seq #[] }
noncomputable def o187 (P : Params) : Obj := fnOb (stc 11 2) rfl (Str.ofString "TreeReader.take") (0) ([]) (Value.none) (Value.none) (Value.none) (Value.none) (none) (Value.none) (Value.none) (0) (Value.none) (none) (#[])
noncomputable def o188 (P : Params) : Obj := { cls := Value.type "code", data := Data.fields #[Value.str (Str.ofString "take") 428, Value.str (Str.ofString "TreeReader.take") 429, Value.str (Str.ofString "/claim/cut.py") 430, Value.int 65 0, Value.int 1 0, Value.int 0 0, Value.int 0 0, Value.int 3 0, Value.ref 180, Value.bool true, Value.int 181 0, Value.ref 181, Value.none, Value.ref 182, Value.ref 183, Value.ref 184, Value.int 433 0, Value.int 65 0, Value.str (Str.ofString "/claim/cut.py") 434] }
noncomputable def o189 (P : Params) : Obj := fnOb (stc 11 2) rfl (Str.ofString "TreeReader.take") (3) ([]) (Value.none) (Value.none) (Value.none) (Value.str (Str.ofString "grammarmill.gramread") 339) (none) (Value.ref 185) (Value.none) (0) (Value.type "function") (none) (#[])
noncomputable def o190 (P : Params) : Obj := { cls := Value.type "tuple", data := Data.seq #[] }
noncomputable def o191 (P : Params) : Obj := { cls := Value.none, data := Data.fields #[] }
noncomputable def o192 (P : Params) : Obj := { cls := Value.type "tuple", data := Data.seq #[Value.str (Str.ofString "self") 439, Value.str (Str.ofString "token") 440] }
noncomputable def o193 (P : Params) : Obj := { cls := Value.type "tuple", data := Data.seq #[] }
noncomputable def o194 (P : Params) : Obj := fnOb (stc 11 3) rfl (Str.ofString "TreeReader.refuse") (0) ([]) (Value.none) (Value.none) (Value.none) (Value.none) (none) (Value.none) (Value.none) (0) (Value.none) (none) (#[])
noncomputable def o195 (P : Params) : Obj := { cls := Value.type "code", data := Data.fields #[Value.str (Str.ofString "refuse") 436, Value.str (Str.ofString "TreeReader.refuse") 437, Value.str (Str.ofString "/claim/cut.py") 438, Value.int 70 0, Value.int 1 0, Value.int 0 0, Value.int 0 0, Value.int 3 0, Value.ref 187, Value.bool true, Value.int 181 0, Value.ref 188, Value.none, Value.ref 189, Value.ref 190, Value.ref 191, Value.int 441 0, Value.int 70 0, Value.str (Str.ofString "/claim/cut.py") 442] }
noncomputable def o196 (P : Params) : Obj := fnOb (stc 11 3) rfl (Str.ofString "TreeReader.refuse") (3) ([]) (Value.none) (Value.none) (Value.none) (Value.str (Str.ofString "grammarmill.gramread") 339) (none) (Value.ref 192) (Value.none) (0) (Value.type "function") (none) (#[])
noncomputable def o197 (P : Params) : Obj := { cls := Value.type "tuple", data := Data.seq #[] }
noncomputable def o198 (P : Params) : Obj := { cls := Value.none, data := Data.fields #[] }
noncomputable def o199 (P : Params) : Obj := { cls := Value.type "tuple", data := Data.seq #[Value.str (Str.ofString "self") 447, Value.str (Str.ofString "decls") 448, Value.str (Str.ofString "rules") 449] }
noncomputable def o200 (P : Params) : Obj := { cls := Value.type "tuple", data := Data.seq #[] }
noncomputable def o201 (P : Params) : Obj := fnOb (stc 11 4) rfl (Str.ofString "TreeReader.file") (0) ([]) (Value.none) (Value.none) (Value.none) (Value.none) (none) (Value.none) (Value.none) (0) (Value.none) (none) (#[])
noncomputable def o202 (P : Params) : Obj := { cls := Value.type "code", data := Data.fields #[Value.str (Str.ofString "file") 444, Value.str (Str.ofString "TreeReader.file") 445, Value.str (Str.ofString "/claim/cut.py") 446, Value.int 74 0, Value.int 1 0, Value.int 0 0, Value.int 0 0, Value.int 3 0, Value.ref 194, Value.bool true, Value.int 181 0, Value.ref 195, Value.none, Value.ref 196, Value.ref 197, Value.ref 198, Value.int 450 0, Value.int 74 0, Value.str (Str.ofString "/claim/cut.py") 451] }
noncomputable def o203 (P : Params) : Obj := fnOb (stc 11 4) rfl (Str.ofString "TreeReader.file") (3) ([]) (Value.none) (Value.none) (Value.none) (Value.str (Str.ofString "grammarmill.gramread") 339) (none) (Value.ref 199) (Value.none) (0) (Value.type "function") (none) (#[])
noncomputable def o204 (P : Params) : Obj := { cls := Value.type "tuple", data := Data.seq #[] }
noncomputable def o205 (P : Params) : Obj := { cls := Value.none, data := Data.fields #[] }
noncomputable def o206 (P : Params) : Obj := { cls := Value.type "tuple", data := Data.seq #[Value.str (Str.ofString "self") 456, Value.str (Str.ofString "word") 457, Value.str (Str.ofString "items") 458] }
noncomputable def o207 (P : Params) : Obj := { cls := Value.type "tuple", data := Data.seq #[] }
noncomputable def o208 (P : Params) : Obj := fnOb (stc 11 5) rfl (Str.ofString "TreeReader.decl") (0) ([]) (Value.none) (Value.none) (Value.none) (Value.none) (none) (Value.none) (Value.none) (0) (Value.none) (none) (#[])
noncomputable def o209 (P : Params) : Obj := { cls := Value.type "code", data := Data.fields #[Value.str (Str.ofString "decl") 453, Value.str (Str.ofString "TreeReader.decl") 454, Value.str (Str.ofString "/claim/cut.py") 455, Value.int 92 0, Value.int 1 0, Value.int 0 0, Value.int 0 0, Value.int 3 0, Value.ref 201, Value.bool true, Value.int 181 0, Value.ref 202, Value.none, Value.ref 203, Value.ref 204, Value.ref 205, Value.int 459 0, Value.int 92 0, Value.str (Str.ofString "/claim/cut.py") 460] }
noncomputable def o210 (P : Params) : Obj := fnOb (stc 11 5) rfl (Str.ofString "TreeReader.decl") (3) ([]) (Value.none) (Value.none) (Value.none) (Value.str (Str.ofString "grammarmill.gramread") 339) (none) (Value.ref 206) (Value.none) (0) (Value.type "function") (none) (#[])
noncomputable def o211 (P : Params) : Obj := { cls := Value.type "tuple", data := Data.seq #[] }
noncomputable def o212 (P : Params) : Obj := { cls := Value.none, data := Data.fields #[] }
noncomputable def o213 (P : Params) : Obj := { cls := Value.type "tuple", data := Data.seq #[Value.str (Str.ofString "self") 465, Value.str (Str.ofString "head") 466, Value.str (Str.ofString "alts") 467] }
noncomputable def o214 (P : Params) : Obj := { cls := Value.type "tuple", data := Data.seq #[] }
noncomputable def o215 (P : Params) : Obj := fnOb (stc 11 6) rfl (Str.ofString "TreeReader.rule") (0) ([]) (Value.none) (Value.none) (Value.none) (Value.none) (none) (Value.none) (Value.none) (0) (Value.none) (none) (#[])
noncomputable def o216 (P : Params) : Obj := { cls := Value.type "code", data := Data.fields #[Value.str (Str.ofString "rule") 462, Value.str (Str.ofString "TreeReader.rule") 463, Value.str (Str.ofString "/claim/cut.py") 464, Value.int 101 0, Value.int 1 0, Value.int 0 0, Value.int 0 0, Value.int 3 0, Value.ref 208, Value.bool true, Value.int 181 0, Value.ref 209, Value.none, Value.ref 210, Value.ref 211, Value.ref 212, Value.int 468 0, Value.int 101 0, Value.str (Str.ofString "/claim/cut.py") 469] }
noncomputable def o217 (P : Params) : Obj := fnOb (stc 11 6) rfl (Str.ofString "TreeReader.rule") (3) ([]) (Value.none) (Value.none) (Value.none) (Value.str (Str.ofString "grammarmill.gramread") 339) (none) (Value.ref 213) (Value.none) (0) (Value.type "function") (none) (#[])
noncomputable def o218 (P : Params) : Obj := { cls := Value.type "tuple", data := Data.seq #[] }
noncomputable def o219 (P : Params) : Obj := { cls := Value.none, data := Data.fields #[] }
noncomputable def o220 (P : Params) : Obj := { cls := Value.type "tuple", data := Data.seq #[Value.str (Str.ofString "self") 474, Value.str (Str.ofString "parts") 475, Value.str (Str.ofString "prec") 476] }
noncomputable def o221 (P : Params) : Obj := { cls := Value.type "tuple", data := Data.seq #[] }
noncomputable def o222 (P : Params) : Obj := fnOb (stc 11 7) rfl (Str.ofString "TreeReader.alt") (0) ([]) (Value.none) (Value.none) (Value.none) (Value.none) (none) (Value.none) (Value.none) (0) (Value.none) (none) (#[])
noncomputable def o223 (P : Params) : Obj := { cls := Value.type "code", data := Data.fields #[Value.str (Str.ofString "alt") 471, Value.str (Str.ofString "TreeReader.alt") 472, Value.str (Str.ofString "/claim/cut.py") 473, Value.int 111 0, Value.int 1 0, Value.int 0 0, Value.int 0 0, Value.int 3 0, Value.ref 215, Value.bool true, Value.int 181 0, Value.ref 216, Value.none, Value.ref 217, Value.ref 218, Value.ref 219, Value.int 477 0, Value.int 111 0, Value.str (Str.ofString "/claim/cut.py") 478] }
noncomputable def o224 (P : Params) : Obj := fnOb (stc 11 7) rfl (Str.ofString "TreeReader.alt") (3) ([]) (Value.none) (Value.none) (Value.none) (Value.str (Str.ofString "grammarmill.gramread") 339) (none) (Value.ref 220) (Value.none) (0) (Value.type "function") (none) (#[])
noncomputable def o225 (P : Params) : Obj := { cls := Value.type "tuple", data := Data.seq #[] }
noncomputable def o226 (P : Params) : Obj := { cls := Value.none, data := Data.fields #[] }
noncomputable def o227 (P : Params) : Obj := { cls := Value.type "tuple", data := Data.seq #[Value.str (Str.ofString "self") 483, Value.str (Str.ofString "word") 484, Value.str (Str.ofString "worth") 485] }
noncomputable def o228 (P : Params) : Obj := { cls := Value.type "tuple", data := Data.seq #[] }
noncomputable def o229 (P : Params) : Obj := fnOb (stc 11 8) rfl (Str.ofString "TreeReader.part") (0) ([]) (Value.none) (Value.none) (Value.none) (Value.none) (none) (Value.none) (Value.none) (0) (Value.none) (none) (#[])
noncomputable def o230 (P : Params) : Obj := { cls := Value.type "code", data := Data.fields #[Value.str (Str.ofString "part") 480, Value.str (Str.ofString "TreeReader.part") 481, Value.str (Str.ofString "/claim/cut.py") 482, Value.int 125 0, Value.int 1 0, Value.int 0 0, Value.int 0 0, Value.int 3 0, Value.ref 222, Value.bool true, Value.int 181 0, Value.ref 223, Value.none, Value.ref 224, Value.ref 225, Value.ref 226, Value.int 486 0, Value.int 125 0, Value.str (Str.ofString "/claim/cut.py") 487] }
noncomputable def o231 (P : Params) : Obj := fnOb (stc 11 8) rfl (Str.ofString "TreeReader.part") (3) ([]) (Value.none) (Value.none) (Value.none) (Value.str (Str.ofString "grammarmill.gramread") 339) (none) (Value.ref 227) (Value.none) (0) (Value.type "function") (none) (#[])
noncomputable def o232 (P : Params) : Obj := { cls := Value.type "tuple", data := Data.seq #[Value.str (Str.ofString "at") 489, Value.str (Str.ofString "tokens") 490] }
noncomputable def o233 (P : Params) : Obj := { cls := Value.type "dict", data := Data.dict #[{ hash := PyData.keyHash P (Str.ofString "__module__"), key := Value.str (Str.ofString "__module__") 408, val := Value.str (Str.ofString "grammarmill.gramread") 339 }, { hash := PyData.keyHash P (Str.ofString "__firstlineno__"), key := Value.str (Str.ofString "__firstlineno__") 412, val := Value.int 56 411 }, { hash := PyData.keyHash P (Str.ofString "__init__"), key := Value.str (Str.ofString "__init__") 420, val := Value.ref 172 }, { hash := PyData.keyHash P (Str.ofString "kind"), key := Value.str (Str.ofString "kind") 427, val := Value.ref 179 }, { hash := PyData.keyHash P (Str.ofString "take"), key := Value.str (Str.ofString "take") 435, val := Value.ref 186 }, { hash := PyData.keyHash P (Str.ofString "refuse"), key := Value.str (Str.ofString "refuse") 443, val := Value.ref 193 }, { hash := PyData.keyHash P (Str.ofString "file"), key := Value.str (Str.ofString "file") 452, val := Value.ref 200 }, { hash := PyData.keyHash P (Str.ofString "decl"), key := Value.str (Str.ofString "decl") 461, val := Value.ref 207 }, { hash := PyData.keyHash P (Str.ofString "rule"), key := Value.str (Str.ofString "rule") 470, val := Value.ref 214 }, { hash := PyData.keyHash P (Str.ofString "alt"), key := Value.str (Str.ofString "alt") 479, val := Value.ref 221 }, { hash := PyData.keyHash P (Str.ofString "part"), key := Value.str (Str.ofString "part") 488, val := Value.ref 228 }, { hash := PyData.keyHash P (Str.ofString "__static_attributes__"), key := Value.str (Str.ofString "__static_attributes__") 491, val := Value.ref 229 }, { hash := PyData.keyHash P (Str.ofString "__dict__"), key := Value.str (Str.ofString "__dict__") 493, val := Value.ref 232 }, { hash := PyData.keyHash P (Str.ofString "__weakref__"), key := Value.str (Str.ofString "__weakref__") 495, val := Value.ref 233 }, { hash := PyData.keyHash P (Str.ofString "__doc__"), key := Value.str (Str.ofString "__doc__") 496, val := Value.none }] 4 }
noncomputable def o234 (P : Params) : Obj := { cls := Value.type "type", data := Data.cls { name := Str.ofString "TreeReader", bases := [Value.type "object"], mro := [Value.ref 231, Value.type "object"], ns := 230, qualname := Str.ofString "TreeReader" }, slots := #[none, none, some (Value.str (Str.ofString "TreeReader") 401), some (Value.str (Str.ofString "TreeReader") 409), some (Value.builtin "object.__new__"), some (Value.bool true)] }
noncomputable def o235 (P : Params) : Obj := { cls := Value.type "getset_descriptor", data := Data.fields #[Value.str (Str.ofString "__dict__") 492, Value.ref 231, Value.builtin "function.__dict__", Value.builtin "function.__dict__#set"] }
noncomputable def o236 (P : Params) : Obj := { cls := Value.type "getset_descriptor", data := Data.fields #[Value.str (Str.ofString "__weakref__") 494, Value.ref 231, Value.builtin "ExceptionGroup.__weakref__", Value.none] }
noncomputable def o237 (P : Params) : Obj := { cls := Value.type "super", data := Data.fields #[Value.ref 231, Value.ref 231, Value.ref 231] }
noncomputable def o238 (P : Params) : Obj := { cls := Value.type "builtin_function_or_method", data := Data.fields #[Value.builtin "object.__init_subclass__", Value.ref 231] }
noncomputable def o239 (P : Params) : Obj := { cls := Value.type "dict", data := Data.dict #[{ hash := PyData.keyHash P (Str.ofString "__name__"), key := Value.str (Str.ofString "__name__") 165, val := Value.str (Str.ofString "law_on0161_01") 499 }, { hash := PyData.keyHash P (Str.ofString "__doc__"), key := Value.str (Str.ofString "__doc__") 166, val := Value.none }, { hash := PyData.keyHash P (Str.ofString "__package__"), key := Value.str (Str.ofString "__package__") 167, val := Value.none }, { hash := PyData.keyHash P (Str.ofString "__loader__"), key := Value.str (Str.ofString "__loader__") 168, val := Value.builtin "__main__.__loader__#opaque" }, { hash := PyData.keyHash P (Str.ofString "__spec__"), key := Value.str (Str.ofString "__spec__") 169, val := Value.none }, { hash := PyData.keyHash P (Str.ofString "__annotations__"), key := Value.str (Str.ofString "__annotations__") 170, val := Value.ref 6 }, { hash := PyData.keyHash P (Str.ofString "__builtins__"), key := Value.str (Str.ofString "__builtins__") 171, val := Value.ref 4 }, { hash := PyData.keyHash P (Str.ofString "__file__"), key := Value.str (Str.ofString "__file__") 173, val := Value.str (Str.ofString "/claim/cut.py") 172 }, { hash := PyData.keyHash P (Str.ofString "__cached__"), key := Value.str (Str.ofString "__cached__") 174, val := Value.none }, { hash := PyData.keyHash P (Str.ofString "_wall"), key := Value.str (Str.ofString "_wall") 193, val := Value.ref 21 }, { hash := PyData.keyHash P (Str.ofString "Position"), key := Value.str (Str.ofString "Position") 235, val := Value.ref 45 }, { hash := PyData.keyHash P (Str.ofString "ToolError"), key := Value.str (Str.ofString "ToolError") 273, val := Value.ref 74 }, { hash := PyData.keyHash P (Str.ofString "GrammarError"), key := Value.str (Str.ofString "GrammarError") 289, val := Value.ref 87 }, { hash := PyData.keyHash P (Str.ofString "Token"), key := Value.str (Str.ofString "Token") 338, val := Value.ref 121 }, { hash := PyData.keyHash P (Str.ofString "SYM_KINDS"), key := Value.str (Str.ofString "SYM_KINDS") 344, val := Value.ref 126 }, { hash := PyData.keyHash P (Str.ofString "PART_WORDS"), key := Value.str (Str.ofString "PART_WORDS") 357, val := Value.ref 127 }, { hash := PyData.keyHash P (Str.ofString "GrammarTree"), key := Value.str (Str.ofString "GrammarTree") 394, val := Value.ref 149 }, { hash := PyData.keyHash P (Str.ofString "told_alt"), key := Value.str (Str.ofString "told_alt") 400, val := Value.ref 158 }, { hash := PyData.keyHash P (Str.ofString "TreeReader"), key := Value.str (Str.ofString "TreeReader") 498, val := Value.ref 231 }, { hash := PyData.keyHash P (Str.ofString "_law_kinds"), key := Value.str (Str.ofString "_law_kinds") 512, val := Value.ref 236 }, { hash := PyData.keyHash P (Str.ofString "_law_take"), key := Value.str (Str.ofString "_law_take") 521, val := Value.ref 243 }, { hash := PyData.keyHash P (Str.ofString "_law_ways"), key := Value.str (Str.ofString "_law_ways") 530, val := Value.ref 250 }, { hash := PyData.keyHash P (Str.ofString "_law_drawn"), key := Value.str (Str.ofString "_law_drawn") 536, val := Value.ref 255 }, { hash := PyData.keyHash P (Str.ofString "_law_token"), key := Value.str (Str.ofString "_law_token") 545, val := Value.ref 262 }, { hash := PyData.keyHash P (Str.ofString "_law_parted"), key := Value.str (Str.ofString "_law_parted") 556, val := Value.ref 269 }, { hash := PyData.keyHash P (Str.ofString "_law_due"), key := Value.str (Str.ofString "_law_due") 569, val := Value.ref 276 }, { hash := PyData.keyHash P (Str.ofString "law"), key := Value.str (Str.ofString "law") 575, val := Value.ref 281 }] 27 }
noncomputable def o240 (P : Params) : Obj := { cls := Value.none, data := Data.fields #[Value.int 1 0, Value.int 0 0, Value.ref 20, Value.int 5 0, Value.int 0 0, Value.ref 27, Value.int 14 0, Value.int 0 0, Value.ref 55, Value.int 25 0, Value.int 0 0, Value.ref 83, Value.int 27 0, Value.int 0 0, Value.ref 95, Value.int 43 0, Value.int 0 0, Value.ref 133, Value.int 53 0, Value.int 0 0, Value.ref 157, Value.int 56 0, Value.int 0 0, Value.ref 164, Value.int 133 0, Value.int 0 0, Value.ref 242, Value.int 141 0, Value.int 0 0, Value.ref 249, Value.int 152 0, Value.int 0 0, Value.ref 254, Value.int 162 0, Value.int 0 0, Value.ref 261, Value.int 165 0, Value.int 0 0, Value.ref 268, Value.int 182 0, Value.int 0 0, Value.ref 275, Value.int 190 0, Value.int 0 0, Value.ref 280] }
noncomputable def o241 (P : Params) : Obj := { cls := Value.type "tuple", data := Data.seq #[Value.str (Str.ofString "KIND") 501, Value.str (Str.ofString "NAME") 502, Value.str (Str.ofString "LITERAL") 503, Value.str (Str.ofString "NUMBER") 504, Value.str (Str.ofString "MARK") 505, Value.str (Str.ofString "HEAD") 506, Value.str (Str.ofString "ACTION") 507, Value.str (Str.ofString "EMPTY") 508, Value.str (Str.ofString "BAR") 509, Value.str (Str.ofString "SEMI") 510, Value.str (Str.ofString "PREC") 511] }
noncomputable def o242 (P : Params) : Obj := { cls := Value.type "tuple", data := Data.seq #[] }
noncomputable def o243 (P : Params) : Obj := { cls := Value.none, data := Data.fields #[] }
noncomputable def o244 (P : Params) : Obj := { cls := Value.type "tuple", data := Data.seq #[Value.str (Str.ofString "pool") 516, Value.str (Str.ofString "many") 517, Value.str (Str.ofString "digit") 518] }
noncomputable def o245 (P : Params) : Obj := { cls := Value.type "tuple", data := Data.seq #[] }
noncomputable def o246 (P : Params) : Obj := fnOb (stm 14) rfl (Str.ofString "_law_take") (0) ([]) (Value.none) (Value.none) (Value.none) (Value.none) (none) (Value.none) (Value.none) (0) (Value.none) (none) (#[])
noncomputable def o247 (P : Params) : Obj := { cls := Value.type "code", data := Data.fields #[Value.str (Str.ofString "_law_take") 513, Value.str (Str.ofString "_law_take") 514, Value.str (Str.ofString "/claim/cut.py") 515, Value.int 133 0, Value.int 2 0, Value.int 0 0, Value.int 0 0, Value.int 3 0, Value.ref 237, Value.bool true, Value.int 181 0, Value.ref 238, Value.none, Value.ref 239, Value.ref 240, Value.ref 241, Value.int 519 0, Value.int 133 0, Value.str (Str.ofString "/claim/cut.py") 520] }
noncomputable def o248 (P : Params) : Obj := fnOb (stm 14) rfl (Str.ofString "_law_take") (3) ([]) (Value.none) (Value.none) (Value.none) (Value.str (Str.ofString "law_on0161_01") 499) (none) (Value.ref 242) (Value.none) (0) (Value.type "function") (none) (#[])
noncomputable def o249 (P : Params) : Obj := { cls := Value.type "tuple", data := Data.seq #[] }
noncomputable def o250 (P : Params) : Obj := { cls := Value.none, data := Data.fields #[] }
noncomputable def o251 (P : Params) : Obj := { cls := Value.type "tuple", data := Data.seq #[Value.str (Str.ofString "ends") 525, Value.str (Str.ofString "leads") 526, Value.str (Str.ofString "kind") 527] }
noncomputable def o252 (P : Params) : Obj := { cls := Value.type "tuple", data := Data.seq #[] }
noncomputable def o253 (P : Params) : Obj := fnOb (stm 15) rfl (Str.ofString "_law_ways") (0) ([]) (Value.none) (Value.none) (Value.none) (Value.none) (none) (Value.none) (Value.none) (0) (Value.none) (none) (#[])
noncomputable def o254 (P : Params) : Obj := { cls := Value.type "code", data := Data.fields #[Value.str (Str.ofString "_law_ways") 522, Value.str (Str.ofString "_law_ways") 523, Value.str (Str.ofString "/claim/cut.py") 524, Value.int 141 0, Value.int 0 0, Value.int 0 0, Value.int 0 0, Value.int 3 0, Value.ref 244, Value.bool true, Value.int 181 0, Value.ref 245, Value.none, Value.ref 246, Value.ref 247, Value.ref 248, Value.int 528 0, Value.int 141 0, Value.str (Str.ofString "/claim/cut.py") 529] }
noncomputable def o255 (P : Params) : Obj := fnOb (stm 15) rfl (Str.ofString "_law_ways") (3) ([]) (Value.none) (Value.none) (Value.none) (Value.str (Str.ofString "law_on0161_01") 499) (none) (Value.ref 249) (Value.none) (0) (Value.type "function") (none) (#[])
noncomputable def o256 (P : Params) : Obj := { cls := Value.type "tuple", data := Data.seq #[] }
noncomputable def o257 (P : Params) : Obj := { cls := Value.none, data := Data.fields #[] }
noncomputable def o258 (P : Params) : Obj := fnOb (stm 16) rfl (Str.ofString "_law_drawn") (0) ([]) (Value.none) (Value.none) (Value.none) (Value.none) (none) (Value.none) (Value.none) (0) (Value.none) (none) (#[])
noncomputable def o259 (P : Params) : Obj := { cls := Value.type "code", data := Data.fields #[Value.str (Str.ofString "_law_drawn") 531, Value.str (Str.ofString "_law_drawn") 532, Value.str (Str.ofString "/claim/cut.py") 533, Value.int 152 0, Value.int 2 0, Value.int 0 0, Value.int 0 0, Value.int 3 0, Value.ref 251, Value.bool true, Value.int 181 0, Value.ref 252, Value.none, Value.none, Value.none, Value.ref 253, Value.int 534 0, Value.int 152 0, Value.str (Str.ofString "/claim/cut.py") 535] }
noncomputable def o260 (P : Params) : Obj := fnOb (stm 16) rfl (Str.ofString "_law_drawn") (3) ([]) (Value.none) (Value.none) (Value.none) (Value.str (Str.ofString "law_on0161_01") 499) (none) (Value.ref 254) (Value.none) (0) (Value.type "function") (none) (#[])
noncomputable def o261 (P : Params) : Obj := { cls := Value.type "tuple", data := Data.seq #[] }
noncomputable def o262 (P : Params) : Obj := { cls := Value.none, data := Data.fields #[] }
noncomputable def o263 (P : Params) : Obj := { cls := Value.type "tuple", data := Data.seq #[Value.str (Str.ofString "kind") 540, Value.str (Str.ofString "at") 541, Value.str (Str.ofString "worth") 542] }
noncomputable def o264 (P : Params) : Obj := { cls := Value.type "tuple", data := Data.seq #[] }
noncomputable def o265 (P : Params) : Obj := fnOb (stm 17) rfl (Str.ofString "_law_token") (0) ([]) (Value.none) (Value.none) (Value.none) (Value.none) (none) (Value.none) (Value.none) (0) (Value.none) (none) (#[])
noncomputable def o266 (P : Params) : Obj := { cls := Value.type "code", data := Data.fields #[Value.str (Str.ofString "_law_token") 537, Value.str (Str.ofString "_law_token") 538, Value.str (Str.ofString "/claim/cut.py") 539, Value.int 162 0, Value.int 2 0, Value.int 0 0, Value.int 0 0, Value.int 3 0, Value.ref 256, Value.bool true, Value.int 181 0, Value.ref 257, Value.none, Value.ref 258, Value.ref 259, Value.ref 260, Value.int 543 0, Value.int 162 0, Value.str (Str.ofString "/claim/cut.py") 544] }
noncomputable def o267 (P : Params) : Obj := fnOb (stm 17) rfl (Str.ofString "_law_token") (3) ([]) (Value.none) (Value.none) (Value.none) (Value.str (Str.ofString "law_on0161_01") 499) (none) (Value.ref 261) (Value.none) (0) (Value.type "function") (none) (#[])
noncomputable def o268 (P : Params) : Obj := { cls := Value.type "tuple", data := Data.seq #[] }
noncomputable def o269 (P : Params) : Obj := { cls := Value.none, data := Data.fields #[] }
noncomputable def o270 (P : Params) : Obj := { cls := Value.type "tuple", data := Data.seq #[Value.str (Str.ofString "state") 549, Value.str (Str.ofString "kind") 550, Value.str (Str.ofString "worth") 551, Value.str (Str.ofString "decls") 552, Value.str (Str.ofString "rules") 553] }
noncomputable def o271 (P : Params) : Obj := { cls := Value.type "tuple", data := Data.seq #[] }
noncomputable def o272 (P : Params) : Obj := fnOb (stm 18) rfl (Str.ofString "_law_parted") (0) ([]) (Value.none) (Value.none) (Value.none) (Value.none) (none) (Value.none) (Value.none) (0) (Value.none) (none) (#[])
noncomputable def o273 (P : Params) : Obj := { cls := Value.type "code", data := Data.fields #[Value.str (Str.ofString "_law_parted") 546, Value.str (Str.ofString "_law_parted") 547, Value.str (Str.ofString "/claim/cut.py") 548, Value.int 165 0, Value.int 5 0, Value.int 0 0, Value.int 0 0, Value.int 3 0, Value.ref 263, Value.bool true, Value.int 181 0, Value.ref 264, Value.none, Value.ref 265, Value.ref 266, Value.ref 267, Value.int 554 0, Value.int 165 0, Value.str (Str.ofString "/claim/cut.py") 555] }
noncomputable def o274 (P : Params) : Obj := fnOb (stm 18) rfl (Str.ofString "_law_parted") (3) ([]) (Value.none) (Value.none) (Value.none) (Value.str (Str.ofString "law_on0161_01") 499) (none) (Value.ref 268) (Value.none) (0) (Value.type "function") (none) (#[])
noncomputable def o275 (P : Params) : Obj := { cls := Value.type "tuple", data := Data.seq #[] }
noncomputable def o276 (P : Params) : Obj := { cls := Value.none, data := Data.fields #[] }
noncomputable def o277 (P : Params) : Obj := { cls := Value.type "tuple", data := Data.seq #[Value.str (Str.ofString "kinds") 560, Value.str (Str.ofString "tokens") 561, Value.str (Str.ofString "leads") 562, Value.str (Str.ofString "state") 563, Value.str (Str.ofString "decls") 564, Value.str (Str.ofString "rules") 565, Value.str (Str.ofString "at") 566] }
noncomputable def o278 (P : Params) : Obj := { cls := Value.type "tuple", data := Data.seq #[] }
noncomputable def o279 (P : Params) : Obj := fnOb (stm 19) rfl (Str.ofString "_law_due") (0) ([]) (Value.none) (Value.none) (Value.none) (Value.none) (none) (Value.none) (Value.none) (0) (Value.none) (none) (#[])
noncomputable def o280 (P : Params) : Obj := { cls := Value.type "code", data := Data.fields #[Value.str (Str.ofString "_law_due") 557, Value.str (Str.ofString "_law_due") 558, Value.str (Str.ofString "/claim/cut.py") 559, Value.int 182 0, Value.int 3 0, Value.int 0 0, Value.int 0 0, Value.int 3 0, Value.ref 270, Value.bool true, Value.int 181 0, Value.ref 271, Value.none, Value.ref 272, Value.ref 273, Value.ref 274, Value.int 567 0, Value.int 182 0, Value.str (Str.ofString "/claim/cut.py") 568] }
noncomputable def o281 (P : Params) : Obj := fnOb (stm 19) rfl (Str.ofString "_law_due") (3) ([]) (Value.none) (Value.none) (Value.none) (Value.str (Str.ofString "law_on0161_01") 499) (none) (Value.ref 275) (Value.none) (0) (Value.type "function") (none) (#[])
noncomputable def o282 (P : Params) : Obj := { cls := Value.type "tuple", data := Data.seq #[] }
noncomputable def o283 (P : Params) : Obj := { cls := Value.none, data := Data.fields #[] }
noncomputable def o284 (P : Params) : Obj := fnOb (stm 20) rfl (Str.ofString "law") (0) ([]) (Value.none) (Value.none) (Value.none) (Value.none) (none) (Value.none) (Value.none) (0) (Value.none) (none) (#[])
noncomputable def o285 (P : Params) : Obj := { cls := Value.type "code", data := Data.fields #[Value.str (Str.ofString "law") 570, Value.str (Str.ofString "law") 571, Value.str (Str.ofString "/claim/cut.py") 572, Value.int 190 0, Value.int 1 0, Value.int 0 0, Value.int 0 0, Value.int 3 0, Value.ref 277, Value.bool true, Value.int 181 0, Value.ref 278, Value.none, Value.none, Value.none, Value.ref 279, Value.int 573 0, Value.int 190 0, Value.str (Str.ofString "/claim/cut.py") 574] }
noncomputable def o286 (P : Params) : Obj := fnOb (stm 20) rfl (Str.ofString "law") (3) ([]) (Value.none) (Value.none) (Value.none) (Value.str (Str.ofString "law_on0161_01") 499) (none) (Value.ref 280) (Value.none) (0) (Value.type "function") (none) (#[])
noncomputable def K0 : Params → Frag := fun P => (nat_lit 2, o41 P) :: (nat_lit 3, o239 P) :: (nat_lit 15, o6 P) :: (nat_lit 17, o8 P) :: (nat_lit 18, o9 P) :: (nat_lit 20, o11 P) :: (nat_lit 21, o12 P) :: (nat_lit 29, o20 P) :: (nat_lit 31, o22 P) :: (nat_lit 32, o23 P) :: (nat_lit 34, o25 P) :: (nat_lit 35, o26 P) :: (nat_lit 36, o27 P) :: (nat_lit 38, o29 P) :: (nat_lit 39, o30 P) :: (nat_lit 41, o32 P) :: (nat_lit 42, o33 P) :: (nat_lit 43, o34 P) :: (nat_lit 44, o35 P) :: (nat_lit 45, o36 P) :: (nat_lit 46, o37 P) :: (nat_lit 47, o38 P) :: (nat_lit 50, o44 P) :: (nat_lit 57, o51 P) :: (nat_lit 58, o52 P) :: (nat_lit 60, o54 P) :: (nat_lit 61, o55 P) :: (nat_lit 63, o57 P) :: (nat_lit 64, o58 P) :: (nat_lit 65, o59 P) :: (nat_lit 67, o61 P) :: (nat_lit 68, o62 P) :: (nat_lit 70, o64 P) :: (nat_lit 71, o65 P) :: (nat_lit 72, o66 P) :: (nat_lit 73, o67 P) :: (nat_lit 74, o74 P) :: (nat_lit 75, o69 P) :: (nat_lit 78, o75 P) :: (nat_lit 85, o82 P) :: (nat_lit 86, o83 P) :: (nat_lit 87, o84 P) :: (nat_lit 97, o96 P) :: (nat_lit 98, o97 P) :: (nat_lit 100, o99 P) :: (nat_lit 101, o100 P) :: (nat_lit 103, o102 P) :: (nat_lit 104, o103 P) :: (nat_lit 105, o104 P) :: (nat_lit 107, o106 P) :: (nat_lit 108, o107 P) :: (nat_lit 110, o109 P) :: (nat_lit 111, o110 P) :: (nat_lit 112, o111 P) :: (nat_lit 114, o113 P) :: (nat_lit 115, o114 P) :: (nat_lit 117, o116 P) :: (nat_lit 118, o117 P) :: (nat_lit 119, o118 P) :: (nat_lit 120, o119 P) :: (nat_lit 121, o120 P) :: (nat_lit 122, o121 P) :: (nat_lit 123, o122 P) :: (nat_lit 126, o125 P) :: (nat_lit 127, o126 P) :: (nat_lit 135, o136 P) :: (nat_lit 137, o138 P) :: (nat_lit 138, o139 P) :: (nat_lit 140, o141 P) :: (nat_lit 141, o142 P) :: (nat_lit 142, o143 P) :: (nat_lit 145, o146 P) :: (nat_lit 146, o147 P) :: (nat_lit 147, o148 P) :: (nat_lit 148, o149 P) :: (nat_lit 149, o150 P) :: (nat_lit 150, o151 P) :: (nat_lit 151, o152 P) :: (nat_lit 154, o155 P) :: (nat_lit 157, o158 P) :: (nat_lit 158, o159 P) :: (nat_lit 166, o169 P) :: (nat_lit 168, o171 P) :: (nat_lit 169, o172 P) :: (nat_lit 171, o174 P) :: (nat_lit 172, o175 P) :: (nat_lit 173, o176 P) :: (nat_lit 175, o178 P) :: (nat_lit 176, o179 P) :: (nat_lit 178, o181 P) :: (nat_lit 179, o182 P) :: (nat_lit 180, o183 P) :: (nat_lit 182, o185 P) :: (nat_lit 183, o186 P) :: (nat_lit 185, o188 P) :: (nat_lit 186, o189 P) :: (nat_lit 187, o190 P) :: (nat_lit 189, o192 P) :: (nat_lit 190, o193 P) :: (nat_lit 192, o195 P) :: (nat_lit 193, o196 P) :: (nat_lit 194, o197 P) :: (nat_lit 196, o199 P) :: (nat_lit 197, o200 P) :: (nat_lit 199, o202 P) :: (nat_lit 200, o203 P) :: (nat_lit 201, o204 P) :: (nat_lit 203, o206 P) :: (nat_lit 204, o207 P) :: (nat_lit 206, o209 P) :: (nat_lit 207, o210 P) :: (nat_lit 208, o211 P) :: (nat_lit 210, o213 P) :: (nat_lit 211, o214 P) :: (nat_lit 213, o216 P) :: (nat_lit 214, o217 P) :: (nat_lit 215, o218 P) :: (nat_lit 217, o220 P) :: (nat_lit 218, o221 P) :: (nat_lit 220, o223 P) :: (nat_lit 221, o224 P) :: (nat_lit 222, o225 P) :: (nat_lit 224, o227 P) :: (nat_lit 225, o228 P) :: (nat_lit 227, o230 P) :: (nat_lit 228, o231 P) :: (nat_lit 229, o232 P) :: (nat_lit 230, o233 P) :: (nat_lit 231, o234 P) :: (nat_lit 232, o235 P) :: (nat_lit 233, o236 P) :: (nat_lit 236, o241 P) :: (nat_lit 237, o242 P) :: (nat_lit 239, o244 P) :: (nat_lit 240, o245 P) :: (nat_lit 242, o247 P) :: (nat_lit 243, o248 P) :: (nat_lit 244, o249 P) :: (nat_lit 246, o251 P) :: (nat_lit 247, o252 P) :: (nat_lit 249, o254 P) :: (nat_lit 250, o255 P) :: (nat_lit 251, o256 P) :: (nat_lit 254, o259 P) :: (nat_lit 255, o260 P) :: (nat_lit 256, o261 P) :: (nat_lit 258, o263 P) :: (nat_lit 259, o264 P) :: (nat_lit 261, o266 P) :: (nat_lit 262, o267 P) :: (nat_lit 263, o268 P) :: (nat_lit 265, o270 P) :: (nat_lit 266, o271 P) :: (nat_lit 268, o273 P) :: (nat_lit 269, o274 P) :: (nat_lit 270, o275 P) :: (nat_lit 272, o277 P) :: (nat_lit 273, o278 P) :: (nat_lit 275, o280 P) :: (nat_lit 276, o281 P) :: (nat_lit 277, o282 P) :: (nat_lit 280, o285 P) :: (nat_lit 281, o286 P) :: []
noncomputable def ks0 : List Nat := [2, 3, 15, 17, 18, 20, 21, 29, 31, 32, 34, 35, 36, 38, 39, 41, 42, 43, 44, 45, 46, 47, 50, 57, 58, 60, 61, 63, 64, 65, 67, 68, 70, 71, 72, 73, 74, 75, 78, 85, 86, 87, 97, 98, 100, 101, 103, 104, 105, 107, 108, 110, 111, 112, 114, 115, 117, 118, 119, 120, 121, 122, 123, 126, 127, 135, 137, 138, 140, 141, 142, 145, 146, 147, 148, 149, 150, 151, 154, 157, 158, 166, 168, 169, 171, 172, 173, 175, 176, 178, 179, 180, 182, 183, 185, 186, 187, 189, 190, 192, 193, 194, 196, 197, 199, 200, 201, 203, 204, 206, 207, 208, 210, 211, 213, 214, 215, 217, 218, 220, 221, 222, 224, 225, 227, 228, 229, 230, 231, 232, 233, 236, 237, 239, 240, 242, 243, 244, 246, 247, 249, 250, 251, 254, 255, 256, 258, 259, 261, 262, 263, 265, 266, 268, 269, 270, 272, 273, 275, 276, 277, 280, 281]
noncomputable def Hb (P : Params) : Heap := Heap.mk (Array.mk [boot_o_0 P, boot_o_1 P, boot_o_2 P, boot_o_3 P, boot_o_4 P, boot_o_5 P, boot_o_6 P, boot_o_7 P, boot_o_8 P, boot_o_9 P, boot_o_10 P, o0 P, o1 P, o2 P, o3 P]) ({ })
noncomputable def T0 (P : Params) : BT := (.node (boot_o_0 P) (.node (boot_o_1 P) (.node (boot_o_3 P) (.node (boot_o_7 P) .nil .nil) (.node (o0 P) .nil .nil)) (.node (boot_o_5 P) (.node (boot_o_9 P) .nil .nil) (.node (o2 P) .nil .nil))) (.node (boot_o_2 P) (.node (boot_o_4 P) (.node (boot_o_8 P) .nil .nil) (.node (o1 P) .nil .nil)) (.node (boot_o_6 P) (.node (boot_o_10 P) .nil .nil) (.node (o3 P) .nil .nil))))
noncomputable def T1 (P : Params) : BT := (.node (boot_o_0 P) (.node (boot_o_1 P) (.node (o4 P) (.node (boot_o_7 P) (.node (o6 P) (.node (o22 P) .nil .nil) (.node (o38 P) .nil .nil)) (.node (o14 P) (.node (o30 P) .nil .nil) .nil)) (.node (o0 P) (.node (o10 P) (.node (o26 P) .nil .nil) .nil) (.node (o18 P) (.node (o34 P) .nil .nil) .nil))) (.node (boot_o_5 P) (.node (boot_o_9 P) (.node (o8 P) (.node (o24 P) .nil .nil) (.node (o40 P) .nil .nil)) (.node (o16 P) (.node (o32 P) .nil .nil) .nil)) (.node (o2 P) (.node (o12 P) (.node (o28 P) .nil .nil) .nil) (.node (o20 P) (.node (o36 P) .nil .nil) .nil)))) (.node (boot_o_2 P) (.node (boot_o_4 P) (.node (boot_o_8 P) (.node (o7 P) (.node (o23 P) .nil .nil) (.node (o39 P) .nil .nil)) (.node (o15 P) (.node (o31 P) .nil .nil) .nil)) (.node (o5 P) (.node (o11 P) (.node (o27 P) .nil .nil) .nil) (.node (o19 P) (.node (o35 P) .nil .nil) .nil))) (.node (boot_o_6 P) (.node (boot_o_10 P) (.node (o9 P) (.node (o25 P) .nil .nil) .nil) (.node (o17 P) (.node (o33 P) .nil .nil) .nil)) (.node (o3 P) (.node (o13 P) (.node (o29 P) .nil .nil) .nil) (.node (o21 P) (.node (o37 P) .nil .nil) .nil)))))
noncomputable def T2 (P : Params) : BT := (.node (boot_o_0 P) (.node (boot_o_1 P) (.node (o42 P) (.node (boot_o_7 P) (.node (o6 P) (.node (o22 P) (.node (o57 P) .nil .nil) .nil) (.node (o38 P) .nil .nil)) (.node (o14 P) (.node (o30 P) (.node (o65 P) .nil .nil) .nil) (.node (o49 P) .nil .nil))) (.node (o0 P) (.node (o10 P) (.node (o26 P) (.node (o61 P) .nil .nil) .nil) (.node (o45 P) .nil .nil)) (.node (o18 P) (.node (o34 P) (.node (o69 P) .nil .nil) .nil) (.node (o53 P) .nil .nil)))) (.node (boot_o_5 P) (.node (boot_o_9 P) (.node (o8 P) (.node (o24 P) (.node (o59 P) .nil .nil) .nil) (.node (o40 P) .nil .nil)) (.node (o16 P) (.node (o32 P) (.node (o67 P) .nil .nil) .nil) (.node (o51 P) .nil .nil))) (.node (o2 P) (.node (o12 P) (.node (o28 P) (.node (o63 P) .nil .nil) .nil) (.node (o47 P) .nil .nil)) (.node (o20 P) (.node (o36 P) (.node (o71 P) .nil .nil) .nil) (.node (o55 P) .nil .nil))))) (.node (o41 P) (.node (boot_o_4 P) (.node (boot_o_8 P) (.node (o7 P) (.node (o23 P) (.node (o58 P) .nil .nil) .nil) (.node (o39 P) .nil .nil)) (.node (o15 P) (.node (o31 P) (.node (o66 P) .nil .nil) .nil) (.node (o50 P) .nil .nil))) (.node (o43 P) (.node (o11 P) (.node (o27 P) (.node (o62 P) .nil .nil) .nil) (.node (o46 P) .nil .nil)) (.node (o19 P) (.node (o35 P) (.node (o70 P) .nil .nil) .nil) (.node (o54 P) .nil .nil)))) (.node (boot_o_6 P) (.node (boot_o_10 P) (.node (o9 P) (.node (o25 P) (.node (o60 P) .nil .nil) .nil) (.node (o44 P) .nil .nil)) (.node (o17 P) (.node (o33 P) (.node (o68 P) .nil .nil) .nil) (.node (o52 P) .nil .nil))) (.node (o3 P) (.node (o13 P) (.node (o29 P) (.node (o64 P) .nil .nil) .nil) (.node (o48 P) .nil .nil)) (.node (o21 P) (.node (o37 P) .nil .nil) (.node (o56 P) .nil .nil))))))
noncomputable def T3 (P : Params) : BT := (.node (boot_o_0 P) (.node (boot_o_1 P) (.node (o72 P) (.node (boot_o_7 P) (.node (o6 P) (.node (o22 P) (.node (o57 P) .nil .nil) .nil) (.node (o38 P) (.node (o76 P) .nil .nil) .nil)) (.node (o14 P) (.node (o30 P) (.node (o65 P) .nil .nil) .nil) (.node (o49 P) (.node (o84 P) .nil .nil) .nil))) (.node (o0 P) (.node (o10 P) (.node (o26 P) (.node (o61 P) .nil .nil) .nil) (.node (o45 P) (.node (o80 P) .nil .nil) .nil)) (.node (o18 P) (.node (o34 P) (.node (o69 P) .nil .nil) .nil) (.node (o53 P) .nil .nil)))) (.node (boot_o_5 P) (.node (boot_o_9 P) (.node (o8 P) (.node (o24 P) (.node (o59 P) .nil .nil) .nil) (.node (o40 P) (.node (o78 P) .nil .nil) .nil)) (.node (o16 P) (.node (o32 P) (.node (o67 P) .nil .nil) .nil) (.node (o51 P) (.node (o86 P) .nil .nil) .nil))) (.node (o2 P) (.node (o12 P) (.node (o28 P) (.node (o63 P) .nil .nil) .nil) (.node (o47 P) (.node (o82 P) .nil .nil) .nil)) (.node (o20 P) (.node (o36 P) (.node (o71 P) .nil .nil) .nil) (.node (o55 P) .nil .nil))))) (.node (o41 P) (.node (boot_o_4 P) (.node (boot_o_8 P) (.node (o7 P) (.node (o23 P) (.node (o58 P) .nil .nil) .nil) (.node (o39 P) (.node (o77 P) .nil .nil) .nil)) (.node (o15 P) (.node (o31 P) (.node (o66 P) .nil .nil) .nil) (.node (o50 P) (.node (o85 P) .nil .nil) .nil))) (.node (o73 P) (.node (o11 P) (.node (o27 P) (.node (o62 P) .nil .nil) .nil) (.node (o46 P) (.node (o81 P) .nil .nil) .nil)) (.node (o19 P) (.node (o35 P) (.node (o70 P) .nil .nil) .nil) (.node (o54 P) .nil .nil)))) (.node (boot_o_6 P) (.node (boot_o_10 P) (.node (o9 P) (.node (o25 P) (.node (o60 P) .nil .nil) .nil) (.node (o44 P) (.node (o79 P) .nil .nil) .nil)) (.node (o17 P) (.node (o33 P) (.node (o74 P) .nil .nil) .nil) (.node (o52 P) .nil .nil))) (.node (o3 P) (.node (o13 P) (.node (o29 P) (.node (o64 P) .nil .nil) .nil) (.node (o48 P) (.node (o83 P) .nil .nil) .nil)) (.node (o21 P) (.node (o37 P) (.node (o75 P) .nil .nil) .nil) (.node (o56 P) .nil .nil))))))
noncomputable def T4 (P : Params) : BT := (.node (boot_o_0 P) (.node (boot_o_1 P) (.node (o87 P) (.node (boot_o_7 P) (.node (o6 P) (.node (o22 P) (.node (o57 P) (.node (o126 P) .nil .nil) .nil) (.node (o94 P) .nil .nil)) (.node (o38 P) (.node (o76 P) .nil .nil) (.node (o110 P) .nil .nil))) (.node (o14 P) (.node (o30 P) (.node (o65 P) .nil .nil) (.node (o102 P) .nil .nil)) (.node (o49 P) (.node (o84 P) .nil .nil) (.node (o118 P) .nil .nil)))) (.node (o0 P) (.node (o10 P) (.node (o26 P) (.node (o61 P) .nil .nil) (.node (o98 P) .nil .nil)) (.node (o45 P) (.node (o80 P) .nil .nil) (.node (o114 P) .nil .nil))) (.node (o18 P) (.node (o34 P) (.node (o69 P) .nil .nil) (.node (o106 P) .nil .nil)) (.node (o53 P) (.node (o90 P) .nil .nil) (.node (o122 P) .nil .nil))))) (.node (boot_o_5 P) (.node (boot_o_9 P) (.node (o8 P) (.node (o24 P) (.node (o59 P) .nil .nil) (.node (o96 P) .nil .nil)) (.node (o40 P) (.node (o78 P) .nil .nil) (.node (o112 P) .nil .nil))) (.node (o16 P) (.node (o32 P) (.node (o67 P) .nil .nil) (.node (o104 P) .nil .nil)) (.node (o51 P) (.node (o86 P) .nil .nil) (.node (o120 P) .nil .nil)))) (.node (o2 P) (.node (o12 P) (.node (o28 P) (.node (o63 P) .nil .nil) (.node (o100 P) .nil .nil)) (.node (o47 P) (.node (o82 P) .nil .nil) (.node (o116 P) .nil .nil))) (.node (o20 P) (.node (o36 P) (.node (o71 P) .nil .nil) (.node (o108 P) .nil .nil)) (.node (o55 P) (.node (o92 P) .nil .nil) (.node (o124 P) .nil .nil)))))) (.node (o41 P) (.node (boot_o_4 P) (.node (boot_o_8 P) (.node (o7 P) (.node (o23 P) (.node (o58 P) .nil .nil) (.node (o95 P) .nil .nil)) (.node (o39 P) (.node (o77 P) .nil .nil) (.node (o111 P) .nil .nil))) (.node (o15 P) (.node (o31 P) (.node (o66 P) .nil .nil) (.node (o103 P) .nil .nil)) (.node (o50 P) (.node (o85 P) .nil .nil) (.node (o119 P) .nil .nil)))) (.node (o88 P) (.node (o11 P) (.node (o27 P) (.node (o62 P) .nil .nil) (.node (o99 P) .nil .nil)) (.node (o46 P) (.node (o81 P) .nil .nil) (.node (o115 P) .nil .nil))) (.node (o19 P) (.node (o35 P) (.node (o70 P) .nil .nil) (.node (o107 P) .nil .nil)) (.node (o54 P) (.node (o91 P) .nil .nil) (.node (o123 P) .nil .nil))))) (.node (boot_o_6 P) (.node (boot_o_10 P) (.node (o9 P) (.node (o25 P) (.node (o60 P) .nil .nil) (.node (o97 P) .nil .nil)) (.node (o44 P) (.node (o79 P) .nil .nil) (.node (o113 P) .nil .nil))) (.node (o17 P) (.node (o33 P) (.node (o74 P) .nil .nil) (.node (o105 P) .nil .nil)) (.node (o52 P) (.node (o89 P) .nil .nil) (.node (o121 P) .nil .nil)))) (.node (o3 P) (.node (o13 P) (.node (o29 P) (.node (o64 P) .nil .nil) (.node (o101 P) .nil .nil)) (.node (o48 P) (.node (o83 P) .nil .nil) (.node (o117 P) .nil .nil))) (.node (o21 P) (.node (o37 P) (.node (o75 P) .nil .nil) (.node (o109 P) .nil .nil)) (.node (o56 P) (.node (o93 P) .nil .nil) (.node (o125 P) .nil .nil)))))))
noncomputable def T5 (P : Params) : BT := (.node (boot_o_0 P) (.node (boot_o_1 P) (.node (o127 P) (.node (boot_o_7 P) (.node (o6 P) (.node (o22 P) (.node (o57 P) (.node (o126 P) .nil .nil) .nil) (.node (o94 P) .nil .nil)) (.node (o38 P) (.node (o76 P) (.node (o144 P) .nil .nil) .nil) (.node (o110 P) .nil .nil))) (.node (o14 P) (.node (o30 P) (.node (o65 P) (.node (o136 P) .nil .nil) .nil) (.node (o102 P) .nil .nil)) (.node (o49 P) (.node (o84 P) (.node (o152 P) .nil .nil) .nil) (.node (o118 P) .nil .nil)))) (.node (o0 P) (.node (o10 P) (.node (o26 P) (.node (o61 P) (.node (o132 P) .nil .nil) .nil) (.node (o98 P) .nil .nil)) (.node (o45 P) (.node (o80 P) (.node (o148 P) .nil .nil) .nil) (.node (o114 P) .nil .nil))) (.node (o18 P) (.node (o34 P) (.node (o69 P) (.node (o140 P) .nil .nil) .nil) (.node (o106 P) .nil .nil)) (.node (o53 P) (.node (o90 P) (.node (o156 P) .nil .nil) .nil) (.node (o122 P) .nil .nil))))) (.node (boot_o_5 P) (.node (boot_o_9 P) (.node (o8 P) (.node (o24 P) (.node (o59 P) (.node (o130 P) .nil .nil) .nil) (.node (o96 P) .nil .nil)) (.node (o40 P) (.node (o78 P) (.node (o146 P) .nil .nil) .nil) (.node (o112 P) .nil .nil))) (.node (o16 P) (.node (o32 P) (.node (o67 P) (.node (o138 P) .nil .nil) .nil) (.node (o104 P) .nil .nil)) (.node (o51 P) (.node (o86 P) (.node (o154 P) .nil .nil) .nil) (.node (o120 P) .nil .nil)))) (.node (o2 P) (.node (o12 P) (.node (o28 P) (.node (o63 P) (.node (o134 P) .nil .nil) .nil) (.node (o100 P) .nil .nil)) (.node (o47 P) (.node (o82 P) (.node (o150 P) .nil .nil) .nil) (.node (o116 P) .nil .nil))) (.node (o20 P) (.node (o36 P) (.node (o71 P) (.node (o142 P) .nil .nil) .nil) (.node (o108 P) .nil .nil)) (.node (o55 P) (.node (o92 P) (.node (o158 P) .nil .nil) .nil) (.node (o124 P) .nil .nil)))))) (.node (o41 P) (.node (boot_o_4 P) (.node (boot_o_8 P) (.node (o7 P) (.node (o23 P) (.node (o58 P) (.node (o129 P) .nil .nil) .nil) (.node (o95 P) .nil .nil)) (.node (o39 P) (.node (o77 P) (.node (o145 P) .nil .nil) .nil) (.node (o111 P) .nil .nil))) (.node (o15 P) (.node (o31 P) (.node (o66 P) (.node (o137 P) .nil .nil) .nil) (.node (o103 P) .nil .nil)) (.node (o50 P) (.node (o85 P) (.node (o153 P) .nil .nil) .nil) (.node (o119 P) .nil .nil)))) (.node (o128 P) (.node (o11 P) (.node (o27 P) (.node (o62 P) (.node (o133 P) .nil .nil) .nil) (.node (o99 P) .nil .nil)) (.node (o46 P) (.node (o81 P) (.node (o149 P) .nil .nil) .nil) (.node (o115 P) .nil .nil))) (.node (o19 P) (.node (o35 P) (.node (o70 P) (.node (o141 P) .nil .nil) .nil) (.node (o107 P) .nil .nil)) (.node (o54 P) (.node (o91 P) (.node (o157 P) .nil .nil) .nil) (.node (o123 P) .nil .nil))))) (.node (boot_o_6 P) (.node (boot_o_10 P) (.node (o9 P) (.node (o25 P) (.node (o60 P) (.node (o131 P) .nil .nil) .nil) (.node (o97 P) .nil .nil)) (.node (o44 P) (.node (o79 P) (.node (o147 P) .nil .nil) .nil) (.node (o113 P) .nil .nil))) (.node (o17 P) (.node (o33 P) (.node (o74 P) (.node (o139 P) .nil .nil) .nil) (.node (o105 P) .nil .nil)) (.node (o52 P) (.node (o89 P) (.node (o155 P) .nil .nil) .nil) (.node (o121 P) .nil .nil)))) (.node (o3 P) (.node (o13 P) (.node (o29 P) (.node (o64 P) (.node (o135 P) .nil .nil) .nil) (.node (o101 P) .nil .nil)) (.node (o48 P) (.node (o83 P) (.node (o151 P) .nil .nil) .nil) (.node (o117 P) .nil .nil))) (.node (o21 P) (.node (o37 P) (.node (o75 P) (.node (o143 P) .nil .nil) .nil) (.node (o109 P) .nil .nil)) (.node (o56 P) (.node (o93 P) (.node (o159 P) .nil .nil) .nil) (.node (o125 P) .nil .nil)))))))
noncomputable def T6 (P : Params) : BT := (.node (boot_o_0 P) (.node (boot_o_1 P) (.node (o160 P) (.node (boot_o_7 P) (.node (o6 P) (.node (o22 P) (.node (o57 P) (.node (o126 P) .nil .nil) (.node (o194 P) .nil .nil)) (.node (o94 P) (.node (o162 P) .nil .nil) (.node (o226 P) .nil .nil))) (.node (o38 P) (.node (o76 P) (.node (o144 P) .nil .nil) (.node (o210 P) .nil .nil)) (.node (o110 P) (.node (o178 P) .nil .nil) .nil))) (.node (o14 P) (.node (o30 P) (.node (o65 P) (.node (o136 P) .nil .nil) (.node (o202 P) .nil .nil)) (.node (o102 P) (.node (o170 P) .nil .nil) (.node (o234 P) .nil .nil))) (.node (o49 P) (.node (o84 P) (.node (o152 P) .nil .nil) (.node (o218 P) .nil .nil)) (.node (o118 P) (.node (o186 P) .nil .nil) .nil)))) (.node (o0 P) (.node (o10 P) (.node (o26 P) (.node (o61 P) (.node (o132 P) .nil .nil) (.node (o198 P) .nil .nil)) (.node (o98 P) (.node (o166 P) .nil .nil) (.node (o230 P) .nil .nil))) (.node (o45 P) (.node (o80 P) (.node (o148 P) .nil .nil) (.node (o214 P) .nil .nil)) (.node (o114 P) (.node (o182 P) .nil .nil) .nil))) (.node (o18 P) (.node (o34 P) (.node (o69 P) (.node (o140 P) .nil .nil) (.node (o206 P) .nil .nil)) (.node (o106 P) (.node (o174 P) .nil .nil) (.node (o238 P) .nil .nil))) (.node (o53 P) (.node (o90 P) (.node (o156 P) .nil .nil) (.node (o222 P) .nil .nil)) (.node (o122 P) (.node (o190 P) .nil .nil) .nil))))) (.node (boot_o_5 P) (.node (boot_o_9 P) (.node (o8 P) (.node (o24 P) (.node (o59 P) (.node (o130 P) .nil .nil) (.node (o196 P) .nil .nil)) (.node (o96 P) (.node (o164 P) .nil .nil) (.node (o228 P) .nil .nil))) (.node (o40 P) (.node (o78 P) (.node (o146 P) .nil .nil) (.node (o212 P) .nil .nil)) (.node (o112 P) (.node (o180 P) .nil .nil) .nil))) (.node (o16 P) (.node (o32 P) (.node (o67 P) (.node (o138 P) .nil .nil) (.node (o204 P) .nil .nil)) (.node (o104 P) (.node (o172 P) .nil .nil) (.node (o236 P) .nil .nil))) (.node (o51 P) (.node (o86 P) (.node (o154 P) .nil .nil) (.node (o220 P) .nil .nil)) (.node (o120 P) (.node (o188 P) .nil .nil) .nil)))) (.node (o2 P) (.node (o12 P) (.node (o28 P) (.node (o63 P) (.node (o134 P) .nil .nil) (.node (o200 P) .nil .nil)) (.node (o100 P) (.node (o168 P) .nil .nil) (.node (o232 P) .nil .nil))) (.node (o47 P) (.node (o82 P) (.node (o150 P) .nil .nil) (.node (o216 P) .nil .nil)) (.node (o116 P) (.node (o184 P) .nil .nil) .nil))) (.node (o20 P) (.node (o36 P) (.node (o71 P) (.node (o142 P) .nil .nil) (.node (o208 P) .nil .nil)) (.node (o108 P) (.node (o176 P) .nil .nil) .nil)) (.node (o55 P) (.node (o92 P) (.node (o158 P) .nil .nil) (.node (o224 P) .nil .nil)) (.node (o124 P) (.node (o192 P) .nil .nil) .nil)))))) (.node (o41 P) (.node (boot_o_4 P) (.node (boot_o_8 P) (.node (o7 P) (.node (o23 P) (.node (o58 P) (.node (o129 P) .nil .nil) (.node (o195 P) .nil .nil)) (.node (o95 P) (.node (o163 P) .nil .nil) (.node (o227 P) .nil .nil))) (.node (o39 P) (.node (o77 P) (.node (o145 P) .nil .nil) (.node (o211 P) .nil .nil)) (.node (o111 P) (.node (o179 P) .nil .nil) .nil))) (.node (o15 P) (.node (o31 P) (.node (o66 P) (.node (o137 P) .nil .nil) (.node (o203 P) .nil .nil)) (.node (o103 P) (.node (o171 P) .nil .nil) (.node (o235 P) .nil .nil))) (.node (o50 P) (.node (o85 P) (.node (o153 P) .nil .nil) (.node (o219 P) .nil .nil)) (.node (o119 P) (.node (o187 P) .nil .nil) .nil)))) (.node (o161 P) (.node (o11 P) (.node (o27 P) (.node (o62 P) (.node (o133 P) .nil .nil) (.node (o199 P) .nil .nil)) (.node (o99 P) (.node (o167 P) .nil .nil) (.node (o231 P) .nil .nil))) (.node (o46 P) (.node (o81 P) (.node (o149 P) .nil .nil) (.node (o215 P) .nil .nil)) (.node (o115 P) (.node (o183 P) .nil .nil) .nil))) (.node (o19 P) (.node (o35 P) (.node (o70 P) (.node (o141 P) .nil .nil) (.node (o207 P) .nil .nil)) (.node (o107 P) (.node (o175 P) .nil .nil) .nil)) (.node (o54 P) (.node (o91 P) (.node (o157 P) .nil .nil) (.node (o223 P) .nil .nil)) (.node (o123 P) (.node (o191 P) .nil .nil) .nil))))) (.node (boot_o_6 P) (.node (boot_o_10 P) (.node (o9 P) (.node (o25 P) (.node (o60 P) (.node (o131 P) .nil .nil) (.node (o197 P) .nil .nil)) (.node (o97 P) (.node (o165 P) .nil .nil) (.node (o229 P) .nil .nil))) (.node (o44 P) (.node (o79 P) (.node (o147 P) .nil .nil) (.node (o213 P) .nil .nil)) (.node (o113 P) (.node (o181 P) .nil .nil) .nil))) (.node (o17 P) (.node (o33 P) (.node (o74 P) (.node (o139 P) .nil .nil) (.node (o205 P) .nil .nil)) (.node (o105 P) (.node (o173 P) .nil .nil) (.node (o237 P) .nil .nil))) (.node (o52 P) (.node (o89 P) (.node (o155 P) .nil .nil) (.node (o221 P) .nil .nil)) (.node (o121 P) (.node (o189 P) .nil .nil) .nil)))) (.node (o3 P) (.node (o13 P) (.node (o29 P) (.node (o64 P) (.node (o135 P) .nil .nil) (.node (o201 P) .nil .nil)) (.node (o101 P) (.node (o169 P) .nil .nil) (.node (o233 P) .nil .nil))) (.node (o48 P) (.node (o83 P) (.node (o151 P) .nil .nil) (.node (o217 P) .nil .nil)) (.node (o117 P) (.node (o185 P) .nil .nil) .nil))) (.node (o21 P) (.node (o37 P) (.node (o75 P) (.node (o143 P) .nil .nil) (.node (o209 P) .nil .nil)) (.node (o109 P) (.node (o177 P) .nil .nil) .nil)) (.node (o56 P) (.node (o93 P) (.node (o159 P) .nil .nil) (.node (o225 P) .nil .nil)) (.node (o125 P) (.node (o193 P) .nil .nil) .nil)))))))
noncomputable def T7 (P : Params) : BT := (.node (boot_o_0 P) (.node (boot_o_1 P) (.node (o239 P) (.node (boot_o_7 P) (.node (o6 P) (.node (o22 P) (.node (o57 P) (.node (o126 P) (.node (o260 P) .nil .nil) .nil) (.node (o194 P) .nil .nil)) (.node (o94 P) (.node (o162 P) .nil .nil) (.node (o226 P) .nil .nil))) (.node (o38 P) (.node (o76 P) (.node (o144 P) (.node (o276 P) .nil .nil) .nil) (.node (o210 P) .nil .nil)) (.node (o110 P) (.node (o178 P) .nil .nil) (.node (o244 P) .nil .nil)))) (.node (o14 P) (.node (o30 P) (.node (o65 P) (.node (o136 P) (.node (o268 P) .nil .nil) .nil) (.node (o202 P) .nil .nil)) (.node (o102 P) (.node (o170 P) .nil .nil) (.node (o234 P) .nil .nil))) (.node (o49 P) (.node (o84 P) (.node (o152 P) (.node (o284 P) .nil .nil) .nil) (.node (o218 P) .nil .nil)) (.node (o118 P) (.node (o186 P) .nil .nil) (.node (o252 P) .nil .nil))))) (.node (o0 P) (.node (o10 P) (.node (o26 P) (.node (o61 P) (.node (o132 P) (.node (o264 P) .nil .nil) .nil) (.node (o198 P) .nil .nil)) (.node (o98 P) (.node (o166 P) .nil .nil) (.node (o230 P) .nil .nil))) (.node (o45 P) (.node (o80 P) (.node (o148 P) (.node (o280 P) .nil .nil) .nil) (.node (o214 P) .nil .nil)) (.node (o114 P) (.node (o182 P) .nil .nil) (.node (o248 P) .nil .nil)))) (.node (o18 P) (.node (o34 P) (.node (o69 P) (.node (o140 P) (.node (o272 P) .nil .nil) .nil) (.node (o206 P) .nil .nil)) (.node (o106 P) (.node (o174 P) .nil .nil) (.node (o238 P) .nil .nil))) (.node (o53 P) (.node (o90 P) (.node (o156 P) .nil .nil) (.node (o222 P) .nil .nil)) (.node (o122 P) (.node (o190 P) .nil .nil) (.node (o256 P) .nil .nil)))))) (.node (boot_o_5 P) (.node (boot_o_9 P) (.node (o8 P) (.node (o24 P) (.node (o59 P) (.node (o130 P) (.node (o262 P) .nil .nil) .nil) (.node (o196 P) .nil .nil)) (.node (o96 P) (.node (o164 P) .nil .nil) (.node (o228 P) .nil .nil))) (.node (o40 P) (.node (o78 P) (.node (o146 P) (.node (o278 P) .nil .nil) .nil) (.node (o212 P) .nil .nil)) (.node (o112 P) (.node (o180 P) .nil .nil) (.node (o246 P) .nil .nil)))) (.node (o16 P) (.node (o32 P) (.node (o67 P) (.node (o138 P) (.node (o270 P) .nil .nil) .nil) (.node (o204 P) .nil .nil)) (.node (o104 P) (.node (o172 P) .nil .nil) (.node (o236 P) .nil .nil))) (.node (o51 P) (.node (o86 P) (.node (o154 P) (.node (o286 P) .nil .nil) .nil) (.node (o220 P) .nil .nil)) (.node (o120 P) (.node (o188 P) .nil .nil) (.node (o254 P) .nil .nil))))) (.node (o2 P) (.node (o12 P) (.node (o28 P) (.node (o63 P) (.node (o134 P) (.node (o266 P) .nil .nil) .nil) (.node (o200 P) .nil .nil)) (.node (o100 P) (.node (o168 P) .nil .nil) (.node (o232 P) .nil .nil))) (.node (o47 P) (.node (o82 P) (.node (o150 P) (.node (o282 P) .nil .nil) .nil) (.node (o216 P) .nil .nil)) (.node (o116 P) (.node (o184 P) .nil .nil) (.node (o250 P) .nil .nil)))) (.node (o20 P) (.node (o36 P) (.node (o71 P) (.node (o142 P) (.node (o274 P) .nil .nil) .nil) (.node (o208 P) .nil .nil)) (.node (o108 P) (.node (o176 P) .nil .nil) (.node (o242 P) .nil .nil))) (.node (o55 P) (.node (o92 P) (.node (o158 P) .nil .nil) (.node (o224 P) .nil .nil)) (.node (o124 P) (.node (o192 P) .nil .nil) (.node (o258 P) .nil .nil))))))) (.node (o41 P) (.node (boot_o_4 P) (.node (boot_o_8 P) (.node (o7 P) (.node (o23 P) (.node (o58 P) (.node (o129 P) (.node (o261 P) .nil .nil) .nil) (.node (o195 P) .nil .nil)) (.node (o95 P) (.node (o163 P) .nil .nil) (.node (o227 P) .nil .nil))) (.node (o39 P) (.node (o77 P) (.node (o145 P) (.node (o277 P) .nil .nil) .nil) (.node (o211 P) .nil .nil)) (.node (o111 P) (.node (o179 P) .nil .nil) (.node (o245 P) .nil .nil)))) (.node (o15 P) (.node (o31 P) (.node (o66 P) (.node (o137 P) (.node (o269 P) .nil .nil) .nil) (.node (o203 P) .nil .nil)) (.node (o103 P) (.node (o171 P) .nil .nil) (.node (o235 P) .nil .nil))) (.node (o50 P) (.node (o85 P) (.node (o153 P) (.node (o285 P) .nil .nil) .nil) (.node (o219 P) .nil .nil)) (.node (o119 P) (.node (o187 P) .nil .nil) (.node (o253 P) .nil .nil))))) (.node (o240 P) (.node (o11 P) (.node (o27 P) (.node (o62 P) (.node (o133 P) (.node (o265 P) .nil .nil) .nil) (.node (o199 P) .nil .nil)) (.node (o99 P) (.node (o167 P) .nil .nil) (.node (o231 P) .nil .nil))) (.node (o46 P) (.node (o81 P) (.node (o149 P) (.node (o281 P) .nil .nil) .nil) (.node (o215 P) .nil .nil)) (.node (o115 P) (.node (o183 P) .nil .nil) (.node (o249 P) .nil .nil)))) (.node (o19 P) (.node (o35 P) (.node (o70 P) (.node (o141 P) (.node (o273 P) .nil .nil) .nil) (.node (o207 P) .nil .nil)) (.node (o107 P) (.node (o175 P) .nil .nil) (.node (o241 P) .nil .nil))) (.node (o54 P) (.node (o91 P) (.node (o157 P) .nil .nil) (.node (o223 P) .nil .nil)) (.node (o123 P) (.node (o191 P) .nil .nil) (.node (o257 P) .nil .nil)))))) (.node (boot_o_6 P) (.node (boot_o_10 P) (.node (o9 P) (.node (o25 P) (.node (o60 P) (.node (o131 P) (.node (o263 P) .nil .nil) .nil) (.node (o197 P) .nil .nil)) (.node (o97 P) (.node (o165 P) .nil .nil) (.node (o229 P) .nil .nil))) (.node (o44 P) (.node (o79 P) (.node (o147 P) (.node (o279 P) .nil .nil) .nil) (.node (o213 P) .nil .nil)) (.node (o113 P) (.node (o181 P) .nil .nil) (.node (o247 P) .nil .nil)))) (.node (o17 P) (.node (o33 P) (.node (o74 P) (.node (o139 P) (.node (o271 P) .nil .nil) .nil) (.node (o205 P) .nil .nil)) (.node (o105 P) (.node (o173 P) .nil .nil) (.node (o237 P) .nil .nil))) (.node (o52 P) (.node (o89 P) (.node (o155 P) .nil .nil) (.node (o221 P) .nil .nil)) (.node (o121 P) (.node (o189 P) .nil .nil) (.node (o255 P) .nil .nil))))) (.node (o3 P) (.node (o13 P) (.node (o29 P) (.node (o64 P) (.node (o135 P) (.node (o267 P) .nil .nil) .nil) (.node (o201 P) .nil .nil)) (.node (o101 P) (.node (o169 P) .nil .nil) (.node (o233 P) .nil .nil))) (.node (o48 P) (.node (o83 P) (.node (o151 P) (.node (o283 P) .nil .nil) .nil) (.node (o217 P) .nil .nil)) (.node (o117 P) (.node (o185 P) .nil .nil) (.node (o251 P) .nil .nil)))) (.node (o21 P) (.node (o37 P) (.node (o75 P) (.node (o143 P) (.node (o275 P) .nil .nil) .nil) (.node (o209 P) .nil .nil)) (.node (o109 P) (.node (o177 P) .nil .nil) (.node (o243 P) .nil .nil))) (.node (o56 P) (.node (o93 P) (.node (o159 P) .nil .nil) (.node (o225 P) .nil .nil)) (.node (o125 P) (.node (o193 P) .nil .nil) (.node (o259 P) .nil .nil))))))))
noncomputable def Hf (P : Params) : Heap := Heap.mk (Array.mk [boot_o_0 P, boot_o_1 P, o41 P, o239 P, boot_o_4 P, boot_o_5 P, boot_o_6 P, boot_o_7 P, boot_o_8 P, boot_o_9 P, boot_o_10 P, o0 P, o240 P, o2 P, o3 P, o6 P, o7 P, o8 P, o9 P, o10 P, o11 P, o12 P, o13 P, o14 P, o15 P, o16 P, o17 P, o18 P, o19 P, o20 P, o21 P, o22 P, o23 P, o24 P, o25 P, o26 P, o27 P, o28 P, o29 P, o30 P, o31 P, o32 P, o33 P, o34 P, o35 P, o36 P, o37 P, o38 P, o39 P, o40 P, o44 P, o45 P, o46 P, o47 P, o48 P, o49 P, o50 P, o51 P, o52 P, o53 P, o54 P, o55 P, o56 P, o57 P, o58 P, o59 P, o60 P, o61 P, o62 P, o63 P, o64 P, o65 P, o66 P, o67 P, o74 P, o69 P, o70 P, o71 P, o75 P, o76 P, o77 P, o78 P, o79 P, o80 P, o81 P, o82 P, o83 P, o84 P, o85 P, o86 P, o89 P, o90 P, o91 P, o92 P, o93 P, o94 P, o95 P, o96 P, o97 P, o98 P, o99 P, o100 P, o101 P, o102 P, o103 P, o104 P, o105 P, o106 P, o107 P, o108 P, o109 P, o110 P, o111 P, o112 P, o113 P, o114 P, o115 P, o116 P, o117 P, o118 P, o119 P, o120 P, o121 P, o122 P, o123 P, o124 P, o125 P, o126 P, o129 P, o130 P, o131 P, o132 P, o133 P, o134 P, o135 P, o136 P, o137 P, o138 P, o139 P, o140 P, o141 P, o142 P, o143 P, o144 P, o145 P, o146 P, o147 P, o148 P, o149 P, o150 P, o151 P, o152 P, o153 P, o154 P, o155 P, o156 P, o157 P, o158 P, o159 P, o162 P, o163 P, o164 P, o165 P, o166 P, o167 P, o168 P, o169 P, o170 P, o171 P, o172 P, o173 P, o174 P, o175 P, o176 P, o177 P, o178 P, o179 P, o180 P, o181 P, o182 P, o183 P, o184 P, o185 P, o186 P, o187 P, o188 P, o189 P, o190 P, o191 P, o192 P, o193 P, o194 P, o195 P, o196 P, o197 P, o198 P, o199 P, o200 P, o201 P, o202 P, o203 P, o204 P, o205 P, o206 P, o207 P, o208 P, o209 P, o210 P, o211 P, o212 P, o213 P, o214 P, o215 P, o216 P, o217 P, o218 P, o219 P, o220 P, o221 P, o222 P, o223 P, o224 P, o225 P, o226 P, o227 P, o228 P, o229 P, o230 P, o231 P, o232 P, o233 P, o234 P, o235 P, o236 P, o237 P, o238 P, o241 P, o242 P, o243 P, o244 P, o245 P, o246 P, o247 P, o248 P, o249 P, o250 P, o251 P, o252 P, o253 P, o254 P, o255 P, o256 P, o257 P, o258 P, o259 P, o260 P, o261 P, o262 P, o263 P, o264 P, o265 P, o266 P, o267 P, o268 P, o269 P, o270 P, o271 P, o272 P, o273 P, o274 P, o275 P, o276 P, o277 P, o278 P, o279 P, o280 P, o281 P, o282 P, o283 P, o284 P, o285 P, o286 P]) ({ })
noncomputable abbrev S0 (w : World) (os : OsState) : Shared := ⟨boot_heap w.params, Array.mk [], boot_drawn, boot_toks, os⟩
noncomputable abbrev Sa (w : World) (os : OsState) : Shared := ⟨Hb w.params, (Array.mk []), { }, 187, os⟩
noncomputable abbrev U0 (w : World) (os : OsState) : SharedT := ⟨T0 w.params, 15, { }, (Array.mk []), { }, 187, os⟩
noncomputable abbrev U1 (w : World) (os : OsState) : SharedT := ⟨T1 w.params, 50, { }, (Array.mk []), { }, 236, os⟩
noncomputable abbrev U2 (w : World) (os : OsState) : SharedT := ⟨T2 w.params, 78, { }, (Array.mk []), { }, 274, os⟩
noncomputable abbrev U3 (w : World) (os : OsState) : SharedT := ⟨T3 w.params, 90, { }, (Array.mk []), { }, 290, os⟩
noncomputable abbrev U4 (w : World) (os : OsState) : SharedT := ⟨T4 w.params, 128, { }, (Array.mk []), { }, 358, os⟩
noncomputable abbrev U5 (w : World) (os : OsState) : SharedT := ⟨T5 w.params, 159, { }, (Array.mk []), { }, 401, os⟩
noncomputable abbrev U6 (w : World) (os : OsState) : SharedT := ⟨T6 w.params, 236, { }, (Array.mk []), { }, 499, os⟩
noncomputable abbrev U7 (w : World) (os : OsState) : SharedT := ⟨T7 w.params, 282, { }, (Array.mk []), { }, 576, os⟩
noncomputable abbrev Sf (w : World) (os : OsState) : Shared := ⟨Hf w.params, (Array.mk []), { }, 576, os⟩
noncomputable def q0 : Pos := { line := 0, col := 0, endLine := 0, endCol := 0 }
noncomputable def an0 : Option Value := some (Value.ref 6)
noncomputable abbrev E0 : Env := { scope := PG.main.scope, locals := mainNs, globals := mainNs, cells := [], code := Value.ref 13, frame := some 14 }
noncomputable abbrev bE : List Stmt := behindTheImports PG
noncomputable abbrev c0 : Code := Code.body bE E0
noncomputable abbrev B0 : List Frame := [topFrame q0]
noncomputable def ps_pre : Pos := { line := 0, col := 0, endLine := 0, endCol := 0 }
noncomputable def ps0 : Pos := { line := 0, col := 0, endLine := 0, endCol := 0 }
noncomputable def ps1 : Pos := { line := 5, col := 0, endLine := 13, endCol := 39 }
noncomputable abbrev l1 : List Stmt := (bE.drop 0).take 3
noncomputable def ps2 : Pos := { line := 14, col := 0, endLine := 24, endCol := 29 }
noncomputable abbrev l2 : List Stmt := (bE.drop 3).take 1
noncomputable def ps3 : Pos := { line := 25, col := 0, endLine := 26, endCol := 8 }
noncomputable abbrev l3 : List Stmt := (bE.drop 4).take 1
noncomputable def ps4 : Pos := { line := 42, col := 0, endLine := 42, endCol := 10 }
noncomputable abbrev l4 : List Stmt := (bE.drop 5).take 4
noncomputable def ps5 : Pos := { line := 53, col := 0, endLine := 55, endCol := 64 }
noncomputable abbrev l5 : List Stmt := (bE.drop 9).take 2
noncomputable def ps6 : Pos := { line := 56, col := 0, endLine := 130, endCol := 28 }
noncomputable abbrev l6 : List Stmt := (bE.drop 11).take 1
noncomputable def ps7 : Pos := { line := 190, col := 0, endLine := 209, endCol := 15 }
noncomputable abbrev l7 : List Stmt := (bE.drop 12).take 9
theorem r_pre (w : World) : (fun os => topGo treeTable PG w 11 an0 12 (S0 w os) (topStub PG)) = fun os => some (Sa w os, ⟨denote treeTable c0, c0, ps_pre, B0⟩) := by kernel_rfl
theorem r_block (w : World) : (fun os => segRun treeTable PG w 11 an0 1 1 (Sa w os) (blockOf bE E0 c0 ps_pre B0)) = fun os => some (.next, (U0 w os).abs, c0, ps0) := by rw [Fast.te14374325043358763698, Fast.te14364793385576792824]; kernel_rfl
theorem r1 (w : World) : (fun os => segRunT treeTable PG w 11 an0 1 296 (U0 w os) (piecesOf l1 E0 c0 ps0 B0)) = fun os => some (.next, U1 w os, c0, ps1) := by rw [Fast.te10110043849684766642, Fast.te14364793385576792824]; kernel_rfl
theorem r2 (w : World) : (fun os => segRunT treeTable PG w 11 an0 1 263 (U1 w os) (piecesOf l2 E0 c0 ps1 B0)) = fun os => some (.next, U2 w os, c0, ps2) := by rw [Fast.te10110043849684766642, Fast.te14364793385576792824]; kernel_rfl
theorem r3 (w : World) : (fun os => segRunT treeTable PG w 11 an0 1 214 (U2 w os) (piecesOf l3 E0 c0 ps2 B0)) = fun os => some (.next, U3 w os, c0, ps3) := by rw [Fast.te10110043849684766642, Fast.te14364793385576792824]; kernel_rfl
theorem r4 (w : World) : (fun os => segRunT treeTable PG w 11 an0 1 384 (U3 w os) (piecesOf l4 E0 c0 ps3 B0)) = fun os => some (.next, U4 w os, c0, ps4) := by
  refine byRow2 "special-get-raises" (P := fun w => (fun os => segRunT treeTable PG w 11 an0 1 384 (U3 w os) (piecesOf l4 E0 c0 ps3 B0)) = fun os => some (.next, U4 w os, c0, ps4)) (fun w => ?_) (fun w => ?_) w
  · rw [Fast.te10110043849684766642, Fast.te14364793385576792824]; kernel_rfl
  · rw [Fast.te10110043849684766642, Fast.te14364793385576792824]; kernel_rfl
theorem r5 (w : World) : (fun os => segRunT treeTable PG w 11 an0 1 279 (U4 w os) (piecesOf l5 E0 c0 ps4 B0)) = fun os => some (.next, U5 w os, c0, ps5) := by rw [Fast.te10110043849684766642, Fast.te14364793385576792824]; kernel_rfl
theorem r6 (w : World) : (fun os => segRunT treeTable PG w 11 an0 1 484 (U5 w os) (piecesOf l6 E0 c0 ps5 B0)) = fun os => some (.next, U6 w os, c0, ps6) := by rw [Fast.te10110043849684766642, Fast.te14364793385576792824]; kernel_rfl
theorem r7 (w : World) : (fun os => segRunT treeTable PG w 11 an0 1 244 (U6 w os) (piecesOf l7 E0 c0 ps6 B0)) = fun os => some (.next, U7 w os, c0, ps7) := by rw [Fast.te10110043849684766642, Fast.te14364793385576792824]; kernel_rfl
theorem r_fin (w : World) : (fun os => topRun treeTable PG w 11 an0 2 (U7 w os).abs ⟨doneF .next, c0, ps7, B0⟩) = fun os => some (Sf w os) := by rw [Fast.te14082659384304107361, Fast.te14364793385576792824]; kernel_rfl
theorem r_body : bE = l1 ++ (l2 ++ (l3 ++ (l4 ++ (l5 ++ (l6 ++ (l7 ++ [])))))) := by kernel_rfl
theorem r_all (w : World) (os : OsState) : topRun treeTable PG w 11 an0 2179 (S0 w os) (topStub PG) = some (Sf w os) := by
  have k := piece_app (segRun_of (congrFun (r1 w) os)) (piece_app (segRun_of (congrFun (r2 w) os)) (piece_app (segRun_of (congrFun (r3 w) os)) (piece_app (segRun_of (congrFun (r4 w) os)) (piece_app (segRun_of (congrFun (r5 w) os)) (piece_app (segRun_of (congrFun (r6 w) os)) (piece_app (segRun_of (congrFun (r7 w) os)) (piece_nil (congrFun (r_fin w) os))))))))
  rw [← r_body] at k
  exact go_top (congrFun (r_pre w) os) (piece_block (congrFun (r_block w) os) k)
noncomputable def Vw : Program := { PG with main := { PG.main with body := [stm 0, stm 2, stm 3, stm 4, stm 5, stm 7, stm 8, stm 9, stm 10, stm 11, stm 13, stm 14, stm 15, stm 16, stm 17, stm 18, stm 19, stm 20] } }
noncomputable abbrev L0 : List Str := [Str.ofString "ToolError", Str.ofString "PART_WORDS"]
noncomputable abbrev R0 : OpenRow := PySem.Challenge.rw_on0161_01.row
theorem ks_eq (P : Params) : ks0 = (K0 P).map (·.1) := by kernel_rfl
noncomputable abbrev H0 : Hook := kHook K0 ks0 ks_eq
theorem r_open : ∀ w : World, (fencedOpening treeTable PG w 4440).map (fun s => (s.heap, s.gens, s.drawn, s.toks)) = some (boot_heap w.params, Array.mk [], boot_drawn, boot_toks) :=
  boot_open (by kernel_rfl) (by decide) (fun s => by kernel_rfl)
theorem r_size (w : World) : ((boot_heap w.params).isNs mainGlobals && (Array.mk [] : Array GenState).size == 0, (boot_heap w.params).objs.size, (boot_heap w.params).nsMap mainGlobals "__annotations__") = (true, 11, an0) := by kernel_rfl
noncomputable abbrev X0 (s : Shared) : Bool := xlAt Vw [] s && recOk (RowW.records (OpenRow.toRowW R0)) s
theorem r_looks (w : World) : (fun os => ((staticsOk (importedModules PG.main.body) (boot_heap w.params) (Hf w.params) && namesBound PG (Hf w.params) && gensDone (Sf w os) && laidKept (boot_heap w.params) (Hf w.params)),
        openSeen Vw L0 (importedModules PG.main.body) X0 true (Sf w os), H0.obs (Sf w os))) = fun _ => (true, openGood Vw L0, H0.val w) := by
  rw [Fast.te5923862056798008813, Fast.te4187177175401517315]; kernel_rfl
theorem left : LeftO PG Vw L0 X0 H0.obs H0.val 4440 := LeftO.of_pieces r_open r_size r_all (by decide) r_looks
theorem said : OpenLaw.wellSaid PySem.Challenge.rw_on0161_01 = true := by
  rw [Fast.te9446332074065402090]; kernel_rfl
/-- the head: what is left of the law is the walk of its call -/
theorem hd {d : DefRec} {kwd : List (Str × PySem.Expr)} (hdef : PySem.W.defOf Vw R0.name = some (d, kwd)) (hp : R0.prog.theDef R0.name = some (d.params, d.body, d.scope)) (hk : kwWritten? d.params.kwonlyargs d.params.kw_defaults = some kwd)
    (call : WalkO Vw L0 (XL Vw []) (Hook.says H0) (OpenRow.toRowW R0) d kwd fun f vs => PySem.call f vs) : PySem.Challenge.rw_on0161_01.Holds := by
  refine holds_law said fun k1 => ?_
  refine PySem.W.holds_open (q := Vw) (loose := L0) (Xt := X0) (XP := XL Vw []) (Yf := Hook.obs H0) (Ya := Hook.val H0) (YP := Hook.says H0) (N := 4440) left (Hook.of H0) (Hook.keeps H0) (fun s e => xl_of s (Bool.and_eq_true_iff.mp e).1) XL.keeps hdef hp hk
    (fun s e => recFacts_of (Bool.and_eq_true_iff.mp e).2) (by rfl) k1 (by decide +kernel) ⟨rfl, rfl, rfl, rfl, rfl, by decide +kernel⟩ ?hw call
  case hw => w_witness2
end

local macro_rules | `(tactic| walk_at "Exists") => `(tactic| k_extra "Exists!")
local macro_rules | `(tactic| walk_at "ItemsRest") => `(tactic| k_extra "ItemsRest!")
local macro_rules | `(tactic| walk_at "KdnMade") => `(tactic| k_extra "KdnMade!")
local macro_rules | `(tactic| walk_at "UnrEndW") => `(tactic| k_extra "UnrEndW!")
local macro_rules | `(tactic| walk_at "binaryOp Add ref ref") => `(tactic| k_extra "binaryOp Add ref ref!")
local macro_rules | `(tactic| walk_at "call builtin:Exception.__init__") => `(tactic| k_extra "call builtin:Exception.__init__!")
local macro_rules | `(tactic| walk_at "call builtin:dict.get") => `(tactic| k_extra "call builtin:dict.get!")
local macro_rules | `(tactic| walk_at "call builtin:len") => `(tactic| k_extra "call builtin:len!")
local macro_rules | `(tactic| walk_at "call builtin:list.pop") => `(tactic| k_extra "call builtin:list.pop!")
local macro_rules | `(tactic| walk_at "call ref") => `(tactic| k_extra "call ref!")
local macro_rules | `(tactic| walk_at "call type:dict") => `(tactic| k_extra "call type:dict!")
local macro_rules | `(tactic| walk_at "call type:list") => `(tactic| k_extra "call type:list!")
local macro_rules | `(tactic| walk_at "call type:tuple") => `(tactic| k_extra "call type:tuple!")
local macro_rules | `(tactic| walk_at "compareOp Eq int int") => `(tactic| k_extra "compareOp Eq int int!")
local macro_rules | `(tactic| walk_at "compareOp Eq ref ref") => `(tactic| k_extra "compareOp Eq ref ref!")
local macro_rules | `(tactic| walk_at "compareOp Eq str str") => `(tactic| k_extra "compareOp Eq str str!")
local macro_rules | `(tactic| walk_at "compareOp In str ref") => `(tactic| k_extra "compareOp In str ref!")
local macro_rules | `(tactic| walk_at "compareOp Is") => `(tactic| k_extra "compareOp Is!")
local macro_rules | `(tactic| walk_at "compareOp NotEq str str") => `(tactic| k_extra "compareOp NotEq str str!")
local macro_rules | `(tactic| walk_at "compareOp NotIn str ref") => `(tactic| k_extra "compareOp NotIn str ref!")
local macro_rules | `(tactic| walk_at "eval IfExp") => `(tactic| k_extra "eval IfExp!")
local macro_rules | `(tactic| walk_at "eval Name") => `(tactic| k_extra "eval Name!")
local macro_rules | `(tactic| walk_at "exec For Name Call cons nil") => `(tactic| k_extra "exec For Name Call cons nil!")
local macro_rules | `(tactic| walk_at "exec Raise some none") => `(tactic| k_extra "exec Raise some none!")
local macro_rules | `(tactic| walk_at "getMethod ref") => `(tactic| k_extra "getMethod ref!")
local macro_rules | `(tactic| walk_at "getMethod type:Exception") => `(tactic| k_extra "getMethod type:Exception!")
local macro_rules | `(tactic| walk_at "isTrue Compare") => `(tactic| k_extra "isTrue Compare!")
local macro_rules | `(tactic| walk_at "leaving ref") => `(tactic| k_extra "leaving ref!")
local macro_rules | `(tactic| walk_at "newTuple") => `(tactic| k_extra "newTuple!")
local macro_rules | `(tactic| walk_at "pyIter ref") => `(tactic| k_extra "pyIter ref!")
local macro_rules | `(tactic| walk_at "setAttr ref") => `(tactic| k_extra "setAttr ref!")
local macro_rules | `(tactic| walk_at "setItem ref str") => `(tactic| k_extra "setItem ref str!")
local macro_rules | `(tactic| walk_at "subscriptTail") => `(tactic| k_extra "subscriptTail!")
local macro_rules | `(tactic| walk_at "subscriptTail Name BinOp ref int") => `(tactic| k_extra "subscriptTail Name BinOp ref int!")
local macro_rules | `(tactic| walk_at "subscriptTail Name Constant ref str") => `(tactic| k_extra "subscriptTail Name Constant ref str!")
local macro_rules | `(tactic| walk_at "subscriptTail Name Name ref int") => `(tactic| k_extra "subscriptTail Name Name ref int!")
local macro_rules | `(tactic| walk_at "subscriptTail Name Name ref str") => `(tactic| k_extra "subscriptTail Name Name ref str!")
local macro_rules | `(tactic| walk_at "subscriptTail Name Subscript ref str") => `(tactic| k_extra "subscriptTail Name Subscript ref str!")
local macro_rules | `(tactic| walk_at "subscriptTail Name UnaryOp ref int") => `(tactic| k_extra "subscriptTail Name UnaryOp ref int!")
local macro_rules | `(tactic| walk_at "subscriptTail Subscript Subscript ref str") => `(tactic| k_extra "subscriptTail Subscript Subscript ref str!")
local macro_rules | `(tactic| walk_at "subscriptTail Subscript UnaryOp ref int") => `(tactic| k_extra "subscriptTail Subscript UnaryOp ref int!")
section
theorem fill_all : (PySem.Challenge.rw_on0161_01.row.prog = PySem.Challenge.rw_on0161_01.row.prog) ∧ (Mine.K0 = Mine.K0) := by
  k_fill
  exact ⟨rfl, rfl⟩
theorem start_Ba : True := by
  w_top off
  k_with_none
  trivial
open PySem PySem.W PyProof.Rows PySem.Spec
set_option maxRecDepth 100000
set_option maxHeartbeats 8000000
noncomputable abbrev LS : List Str := looseW Mine.Vw [Str.ofString "ToolError", Str.ofString "PART_WORDS"]

theorem mem_tl {p q : Addr × Obj} {l : List (Addr × Obj)} (h : p ∈ l) : p ∈ q :: l := List.mem_cons_of_mem _ h

/-- the reader's own dict: its tokens, its place -/
noncomputable abbrev rdObj (ha hb : Int) (ta tb : Tok) (tl : Addr) (k : Nat) (tk : Tok) : Obj :=
  dictOf [⟨ha, .str (Str.ofString "tokens") ta, .ref tl⟩, ⟨hb, .str (Str.ofString "at") tb, .int (k : Int) tk⟩] 2
/-- a token lies in the ledger -/
inductive TokIn (fz : List (Addr × Obj)) (v : Value) (kd : Str) (wv : Value) (off : Int) : Prop
  | mk (xt dxt px dpx : Addr) (h1 h2 h3 h4 g1 g2 g3 : Int) (t1 t2 t3 t4 t5 u1 u2 u3 u4 : Tok) (n2 n3 : Nat) (vtx vl vc : Value) (e : v = .ref xt) (ma : (xt, instObj 121 dxt) ∈ fz)
    (mb : (dxt, dictOf [⟨h1, .str (Str.ofString "kind") t1, .str kd t5⟩, ⟨h2, .str (Str.ofString "text") t2, vtx⟩, ⟨h3, .str (Str.ofString "at") t3, .ref px⟩, ⟨h4, .str (Str.ofString "worth") t4, wv⟩] n2) ∈ fz)
    (mc : (px, instObj 45 dpx) ∈ fz) (md : (dpx, dictOf [⟨g1, .str (Str.ofString "offset") u1, .int off u4⟩, ⟨g2, .str (Str.ofString "line") u2, vl⟩, ⟨g3, .str (Str.ofString "column") u3, vc⟩] n3) ∈ fz) : TokIn fz v kd wv off
theorem TokIn.mono {fz fz' : List (Addr × Obj)} {v : Value} {kd : Str} {wv : Value} {off : Int} (hs : ∀ p ∈ fz, p ∈ fz') (h : TokIn fz v kd wv off) : TokIn fz' v kd wv off := by
  obtain ⟨xt, dxt, px, dpx, h1, h2, h3, h4, g1, g2, g3, t1, t2, t3, t4, t5, u1, u2, u3, u4, n2, n3, vtx, vl, vc, e, a, b, c, d⟩ := h
  exact ⟨xt, dxt, px, dpx, h1, h2, h3, h4, g1, g2, g3, t1, t2, t3, t4, t5, u1, u2, u3, u4, n2, n3, vtx, vl, vc, e, hs _ a, hs _ b, hs _ c, hs _ d⟩

section
variable {prog : Program} {w : World} {A : Around} {E : Value → Shared → Prop} {s : Shared}
theorem item_nat {value slice : PySem.Expr} {l : Addr} {vs : List Value} {n : Nat} {h₀ : Heap} {L : Addr} {news : List (Addr × Obj)} {k : Nat} {u : Tok} {v : Value} {Q : Value → Shared → Prop}
    (N : News h₀ L s.heap news) (hl : (l, W.listOf vs.toArray n) ∈ news) (hx : vs[k]? = some v) (hhi : k < 1000) (h : Q v s)
    (hs : subscripted slice false (.ref l) (.int (k : Int) u) = operate [.ref l, .int (k : Int) u] (getItem (.ref l) (.int (k : Int) u)) := by with_unfolding_all rfl) :
    wpAny (model prog w) A (subscriptTail value slice (.ref l) (.int (k : Int) u)) Q E s :=
  tail_any (News.isList N hl).typeIs slot_list_getitem.lookup (wpAny_getItem_list (News.isList N hl) (Int.natCast_nonneg k) (by omega) (by simpa using hx) h) hs
end
section
variable {M : Model} {A : Around} {body : List Stmt} {env : Env} {E : Value → Shared → Prop} {s : Shared}
/-- what comes behind is given a name: the terms of a walk hold it at every step -/
theorem abs_Q {β : Type} {t : Sem β} {Q : β → Shared → Prop} (h : ∀ W : β → Shared → Prop, (∀ f s₃, Q f s₃ → W f s₃) → wpAny M A t W E s) : wpAny M A t Q E s := h Q fun _ _ x => x
theorem abs_QE {Q : Flow → Shared → Prop} (hP : PassesOwn M A env E) (h : ∀ W : Flow → Shared → Prop, (∀ f s₃, Q f s₃ → W f s₃) → ∀ V : Value → Shared → Prop, (∀ f s₃, E f s₃ → V f s₃) → PassesOwn M A env V → wpAny M A (execs body env) W V s) : wpAny M A (execs body env) Q E s := h Q (fun _ _ x => x) E (fun _ _ x => x) hP
theorem abs_while {t : Sem Bool} {X : Flow → Shared → Prop} {Y : Shared → Prop}
    (h : ∀ W : Flow → Shared → Prop, (∀ f s₃, X f s₃ → W f s₃) → wpAny M A t (fun b s₂ => if b = true then wpAny M A (execs body env) W E s₂ else Y s₂) E s) :
    wpAny M A t (fun b s₂ => if b = true then wpAny M A (execs body env) X E s₂ else Y s₂) E s := h X fun _ _ x => x
theorem abs_body {β : Type} {t : Sem β} {X : Flow → Shared → Prop}
    (h : ∀ W : Flow → Shared → Prop, (∀ f s₃, X f s₃ → W f s₃) → wpAny M A t (fun _ s₃ => wpAny M A (execs body env) W E s₃) E s) :
    wpAny M A t (fun _ s₃ => wpAny M A (execs body env) X E s₃) E s := h X fun _ _ x => x
theorem useX {β : Type} {X W : β → Shared → Prop} (h : ∀ f s₃, X f s₃ → W f s₃) {f : β} (x : X f s) : W f s := h f s x
end
end

section
theorem start_Ex : True := by
  w_top off
  k_with_none
  trivial
open PySem PySem.W PyProof.Rows PySem.Spec PySem.Calls
set_option maxRecDepth 100000
set_option maxHeartbeats 8000000
noncomputable abbrev excObj (t : Addr) : Obj := { cls := .ref 87, data := .fields #[.ref t, .none, .none, .none, .bool false, .none] }
noncomputable abbrev tupObj (vs : List Value) : Obj := { cls := .type "tuple", data := .seq vs.toArray }
noncomputable abbrev excTail : List Value := [.ref 74, .type "Exception", .type "BaseException", .type "object"]
theorem excB : (Value.ref 87 :: excTail).contains (.type "Exception") = true := by decide
theorem excBB : (Value.ref 87 :: excTail).contains (.type "BaseException") = true := by decide
theorem excA : (Value.ref 87 :: excTail).contains (.type "AttributeError") = false := by decide
theorem excN : (Value.ref 87 :: excTail).contains (.type "NameError") = false := by decide
theorem excC : (Value.ref 87 :: excTail).contains (.ref 87) = true := by decide
section
variable {prog : Program} {w : World} {A : Around} {K : Frag} {s : Shared} {h₀ h : Heap} {L : Addr} {m : Str → Option Value} {news : List (Addr × Obj)} {R : Result → Shared → Prop} {E : Value → Shared → Prop} {g : Array GenState} {d : Drawn} {t : Nat} {os : OsState}
  {nm q : Str} {N : Addr} {bs : List Value} {hdct : Bool} {sn : List Str} {sub : List Value} {ab : Bool} {col : Option Bool} {dd : Option Addr} {k0 k1 k2 k3 k5 : Option Value} {rest : List Value} {fI : Addr}
theorem exc_check {M : Model} {Q : Unit → Shared → Prop} (hC : h.get? 87 = some (excClassObj nm q 87 N bs excTail hdct sn sub ab col dd k0 k1 k2 k3 k5 "Exception.__new__"))
    (hq : Q () ⟨h, g, d, t, os⟩) : wpAny M A (checkBuiltinCall "Exception.__new__" ⟨.ref 87 :: rest, []⟩) Q E ⟨h, g, d, t, os⟩ := by
  have Fn := PySem.F.excBase_Exception
  have hstar := Fn.noStar
  simp only [checkBuiltinCall, Fn.newKind, Fn.newSplit, Fn.newRow]
  repeat (first | refine wpAny_loadPart_at hC ?_ | (refine wpAny_isSubtype_exc hC ?_; rw [excB]) | refine wpAny_staticBase_exc hC ?_ | refine wpAny_madeBy_exc hC ?_ | simp only [bne_self_eq_false, Bool.false_eq_true, if_false] | wp_step)
  exact hq
theorem exc_new (hC : h.get? 87 = some (excClassObj nm q 87 N bs excTail hdct sn sub ab col dd k0 k1 k2 k3 k5 "Exception.__new__"))
    (hq : R (.ok (.ret (.ref (h.objs.size + 1)))) ⟨(h.push (tupObj rest)).push (excObj h.objs.size), g, d, t, os⟩) (hrest : rest.length ≤ sizeLine) :
    codeAny (model prog w) A (.builtin "Exception.__new__" ⟨.ref 87 :: rest, []⟩) R ⟨h, g, d, t, os⟩ := by
  have Fn := PySem.F.excBase_Exception
  have hends := Fn.ends
  refine codeAny_builtinAt Fn.entry ?_
  unfold Builtin.«BaseException.__new__»
  refine PySem.wpAt_bind ?_
  show PySem.wpAt _ _ _ (stack >>= _) _ _ _
  refine PySem.wpAt_bind (PySem.wpAt_stack fun p below => PySem.wpAt_of_wpAny ?_)
  wp_walk
  refine PySem.wpAt_of_wpAny ?_
  rw [Fn.owner]
  repeat (first | with_reducible refine wpAny_madeHere_exc Fn.canon hC ?_ | with_reducible refine wpAny_loadPart_at hC ?_ | (with_reducible refine wpAny_isSubtype_exc hC ?_; first | rw [excB] | rw [excA] | rw [excN]) | wp_step)
  show R _ _
  rw [Heap.size_push]
  exact hq
theorem exc_make
    (F : Fr h₀ L s.heap m) (N0 : News h₀ L s.heap news) (X : K.In s.heap)
    (hC : s.heap.get? 87 = some (excClassObj nm q 87 N bs excTail hdct sn sub ab col dd k0 k1 k2 k3 k5 "Exception.__new__"))
    (hi : findIn K (.ref 87) "__init__" = some (some (.ref fI))) (hf : typeIn K (.ref fI) = some (.type "function"))
    (h : ∀ e t h', Fr h₀ L h' m → News h₀ L h' ((e, excObj t) :: (t, tupObj rest) :: news) → (∀ p ∈ news, p.1 < t) → t < e →
      codeAny (model prog w) (A.under (.builtin "type.__call__" ⟨.ref 87 :: rest, []⟩)) (.call (.ref fI) ⟨.ref e :: rest, []⟩) (InitBack e R) { s with heap := h' }) (hrest : rest.length ≤ sizeLine) :
    codeAny (model prog w) A (.call (.ref 87) ⟨rest, []⟩) R s := by
  obtain ⟨hh, g, d, t, os⟩ := s
  have Fn := PySem.F.excBase_Exception
  have f1 := tc_lookup
  have f2 := tc_bind (.ref 87)
  have hT : (⟨hh, g, d, t, os⟩ : Shared).TypeIs (.ref 87) "type" := ⟨_, hC, rfl⟩
  refine codeAny_of_tree ?_
  show wpAny _ _ (callAny (.ref 87) _) _ _ _
  repeat (any_goals (first | assumption | with_reducible refine wpAny_loadPart_at hC ?_ | wp_step))
  refine ⟨rfl, ?_⟩
  refine codeAny_call_builtin_at (Code.quiet_builtin _ (by decide +kernel)) entry_typeCall (wpAny_check_type_call_sub hC ?_)
  unfold Builtin.«type.__call__»
  repeat (first | with_reducible refine wpAny_loadPart_at hC ?_ | with_reducible refine wpAny_madeBy_exc hC ?_ | wp_step)
  refine codeAny_call_builtin_code (Code.quiet_builtin _ Fn.quiet) (exc_check (rest := rest) hC ?_)
  refine exc_new (rest := rest) hC ?_ hrest
  show wpAny _ _ _ _ _ _
  have k : ∀ b o, hh.get? b = some o → ((hh.push (tupObj rest)).push (excObj hh.objs.size)).get? b = some o := fun b o e => Heap.get?_push_of_some _ (Heap.get?_push_of_some _ e)
  have hx : ((hh.push (tupObj rest)).push (excObj hh.objs.size)).get? (hh.objs.size + 1) = some (excObj hh.objs.size) := by heap_get
  have hC₁ := k _ _ hC
  have t1 : Looks (model prog w) ((hh.push (tupObj rest)).push (excObj hh.objs.size)) (typeOf (.ref (hh.objs.size + 1))) (.ref 87) := (Looks.ld hx).andThen .now
  have i1 := (looks_findIn (M := model prog w) X hi).keeps k
  have b1 := (bind_fn (M := model prog w) X (.ref (hh.objs.size + 1)) hf).keeps k
  have s1 : Looks (model prog w) ((hh.push (tupObj rest)).push (excObj hh.objs.size)) (isSubtype (.ref 87) (.ref 87)) true := by
    intro A Q E s' k' q
    obtain ⟨hq, g, d, t, os⟩ := s'
    refine wpAny_isSubtype_exc (k' _ _ hC₁) ?_
    rw [excC]
    exact q
  unfold isInstance callSpecial? specialOf
  have N' := (N0.push F (tupObj rest)).push (F.push _) (excObj hh.objs.size)
  rw [Heap.size_push] at N'
  have z := h _ hh.objs.size _ ((F.push _).push _) N' (fun p hp => Heap.lt_size (N0 p hp).1) (Nat.lt_succ_self _)
  clear hC₁ hC hT f1 f2
  repeat (first | with_reducible refine wpAny_call ?_ | lk)
  refine codeAny_mono z fun r s' z => ?_
  rcases r with e | (v | _ | _ | _) <;> first | exact z | exact z.elim | skip
  obtain ⟨rfl, z⟩ := z
  exact wpAny_pure (wpAny_pure z)
end
end

section
theorem start_Ex2 : True := by
  w_top off
  k_with_none
  trivial
open PySem PySem.W PyProof.Rows PySem.Spec PySem.Calls
set_option maxRecDepth 100000
set_option maxHeartbeats 8000000
/-- the class GrammarError as it stands -/
inductive ErrCls (h : Heap) : Prop
  | mk (nm q : Str) (N : Addr) (bs : List Value) (hdct : Bool) (sn : List Str) (sub : List Value) (ab : Bool) (col : Option Bool) (dd : Option Addr) (k0 k1 k2 k3 k5 : Option Value) (e : h.get? 87 = some (excClassObj nm q 87 N bs excTail hdct sn sub ab col dd k0 k1 k2 k3 k5 "Exception.__new__")) : ErrCls h
noncomputable def RaisableX (E : Value → Shared → Prop) (v : Value) (s₁ : Shared) : Prop :=
  ∃ e t dk, v = .ref e ∧ ErrCls s₁.heap ∧ s₁.heap.get? e = some { cls := .ref 87, dict := dk, data := .fields #[.ref t, .none, .none, .none, .bool false, .none] } ∧ E (.ref e) s₁
section
variable {M : Model} {A : Around} {E : Value → Shared → Prop} {env : Env} {s : Shared}
theorem raiseStmt_own {x : Sem Value} {Q : Flow → Shared → Prop} (hh : A.handled = none)
    (h : wpAny M A x (RaisableX E) E s) : wpAny M A (raiseStmt env (some x) none) Q E s := by
  unfold raiseStmt
  refine wpAny_bind (wpAny_mono h (fun v s₁ h₁ => ?_) fun _ _ x => x)
  obtain ⟨e, t, dk, rfl, ⟨nm, q, N, bs, hdct, sn, sub, ab, col, dd, k0, k1, k2, k3, k5, hC⟩, he, hE⟩ := h₁
  obtain ⟨hp, g, d, tk, os⟩ := s₁
  repeat (first | with_reducible refine wpAny_loadPart_at he ?_ | with_reducible refine wpAny_loadPart_at hC ?_ | (with_reducible refine wpAny_isSubtype_exc hC ?_; rw [excBB]) | wp_step)
  exact wpAny_raiseNew_none hh hE
theorem Raise_ownX {x : PySem.Expr} {pos : Pos} {Q : Flow → Shared → Prop} (hh : A.handled = none)
    (h : wpAny M A (eval x env) (RaisableX E) E s) : wpAny M A (exec (.Raise (some x) none pos) env) Q E s := by
  rw [arm_exec_Raise]
  simp only [evalOpt, Option.map]
  exact wpAny_bind (wpAny_standAt (raiseStmt_own hh (wpAny_bind (wpAny_mono h (fun v s₁ h₁ => wpAny_bind (wpAny_standAt (wpAny_pure h₁))) fun _ _ x => x))))
end
theorem errCls_at {K : Frag} {h : Heap} {o : Obj} (X : K.In h) (q : List.lookup (87 : Addr) K = some o) {nm q' : Str} {N : Addr} {bs : List Value} {hdct : Bool} {sn : List Str} {sub : List Value} {ab : Bool} {col : Option Bool} {dd : Option Addr} {k0 k1 k2 k3 k5 : Option Value}
    (e : o = excClassObj nm q' 87 N bs excTail hdct sn sub ab col dd k0 k1 k2 k3 k5 "Exception.__new__") : ErrCls h :=
  ⟨nm, q', N, bs, hdct, sn, sub, ab, col, dd, k0, k1, k2, k3, k5, e ▸ X 87 _ q⟩
theorem errCls_of {w : World} {h : Heap} (X : (Mine.K0 w.params).In h) : ErrCls h := by
  refine' errCls_at X ?a ?b
  case a => k_is
  case b => rfl
end

section
theorem start_Ex3 : True := by
  w_top off
  k_with_none
  trivial
open PySem PySem.W PyProof.Rows PySem.Spec PySem.Calls Builtin Builtin.ObjectAttr
set_option maxRecDepth 100000
set_option maxHeartbeats 8000000
section
variable {prog : Program} {w : World} {A : Around} {E : Value → Shared → Prop} {s : Shared} {h₀ : Heap} {L : Addr} {m : Str → Option Value} {news : List (Addr × Obj)} {Q : Value → Shared → Prop} {rest : List Value} {e t : Addr} {K : Frag}
theorem fr_upd {f : Obj → Obj} {o : Obj} (F : Fr h₀ L s.heap m) (N : News h₀ L s.heap ((e, o) :: news)) (hne : ∀ p ∈ news, p.1 ≠ e) (hf : (f o).isFreed = false) :
    Fr h₀ L (s.heap.update e f) m ∧ News h₀ L (s.heap.update e f) ((e, f o) :: news) := by
  have he := N _ (.head _)
  have k : ∀ b o, b ∉ [e] → s.heap.get? b = some o → (s.heap.update e f).get? b = some o := fun b o hb hg => by
    rw [Heap.get?_update_other _ _ (fun q => hb (by simp [q]))]; exact hg
  refine ⟨LCg.fr_but F k (Ne.symm he.2.1) he.2.2, fun p hp => ?_⟩
  rcases List.mem_cons.mp hp with rfl | hp
  · exact ⟨Heap.get?_update_self _ he.1 hf, he.2⟩
  · exact ⟨k _ _ (by simpa using hne p hp) (N p (.tail _ hp)).1, (N p (.tail _ hp)).2⟩
theorem exc_init (F : Fr h₀ L s.heap m) (N : News h₀ L s.heap ((e, excObj t) :: news)) (hne : ∀ p ∈ news, p.1 ≠ e) (hC : ErrCls s.heap)
    (h : ∀ t2 h', Fr h₀ L h' m → News h₀ L h' ((e, excObj t2) :: (t2, tupObj rest) :: news) → e < t2 → (∀ p ∈ news, p.1 < t2) → Q .none { s with heap := h' }) (hrest : rest.length ≤ sizeLine) :
    wpAny (model prog w) A (call (.builtin "Exception.__init__") (.ref e :: rest) []) Q E s := by
  obtain ⟨nm, q, N', bs, hdct, sn, sub, ab, col, dd, k0, k1, k2, k3, k5, hC⟩ := hC
  have FF := PySem.F.excBase_Exception
  have he : s.heap.get? e = some (excObj t) := (N _ (.head _)).1
  obtain ⟨hh, g, d, tk, os⟩ := s
  refine wpAny_call (codeAny_call_builtin FF.init.plain FF.initEntry ?_)
  have hshort := FF.noStar
  simp only [checkBuiltinCall, FF.initKind, FF.initSplit, FF.initRow]
  repeat (first | (with_reducible refine wpAny_loadPart_at he ?_) | with_reducible refine wpAny_loadPart_at hC ?_ | (with_reducible refine wpAny_isSubtype_exc hC ?_; rw [excB]) | wp_step)
  refine wpAny_onRaise ?_
  rw [show ∀ (a b : String) (n : Nat), Bind.check ⟨.positional, "*", "Exception", .self, [⟨"args", .varPos, false⟩]⟩ a b n (List.map (fun x => x.fst) ({ pos := Value.ref e :: rest } : Args).kw) = pure () from
    fun a b n => check_star_args _ _ _ _ _ _]
  refine wpAny_pure ?_
  wp_walk
  have N1 := N.push F (tupObj rest)
  have hlt : ∀ p ∈ (e, excObj t) :: news, p.1 < hh.objs.size := fun p hp => Heap.lt_size (N p hp).1
  have N2 : News h₀ L (hh.push (tupObj rest)) ((e, excObj t) :: (hh.objs.size, tupObj rest) :: news) := fun p hp => N1 p (by
    rcases List.mem_cons.mp hp with rfl | hp
    · exact .tail _ (.head _)
    · rcases List.mem_cons.mp hp with rfl | hp
      · exact .head _
      · exact .tail _ (.tail _ hp))
  have U := fr_upd (s := ⟨hh.push (tupObj rest), g, d, tk, os⟩) (f := Obj.mapFields fun x => x.setIfInBounds 0 (Value.ref hh.objs.size)) (F.push (tupObj rest)) N2 (fun p hp => by
    rcases List.mem_cons.mp hp with rfl | hp
    · exact Nat.ne_of_gt (hlt _ (.head _))
    · exact hne p hp) rfl
  exact h hh.objs.size _ U.1 U.2 (hlt _ (.head _)) fun p hp => hlt p (.tail _ hp)

theorem exc_get {ox : Obj} {C : Addr} {od : Option Obj} {name : Str} {expr : Bool} {v : Value} (X : K.In s.heap) (I : InstAt s.heap e ox C od)
    (hga : findIn K (.ref C) "__getattribute__" = some (some (.builtin "BaseException.__getattribute__"))) (hgt : findIn K (.ref C) "__getattr__" = some none) (hb : mroIn K C (.type "BaseException") = some true)
    (hf : findObj K C od name = some (.value v)) (hh : handedIn v = true) (h : Q v { s with toks := s.toks + 1 }) : wpAny (model prog w) A (getAttr (.ref e) name expr) Q E s := by
  obtain ⟨hp, g, d, t, os⟩ := s
  have L0 := I.type (M := model prog w)
  have L1 := looks_findIn (M := model prog w) X hga
  have L2 := looks_findIn (M := model prog w) X hgt
  have L3 := looks_find (M := model prog w) X I hf
  have L4 : Looks (model prog w) hp (isInstance (.ref e) (.type "BaseException")) true := L0.andThen (looks_mroIn X hb)
  unfold getAttr getAttrBy
  refine wpAny_bind (wpAny_mkText (wpAny_holding (wpAny_bind (L0.at (wpAny_bind (L1.at ?_))))))
  have hx2 : (Value.builtin "BaseException.__getattribute__" == Value.builtin "object.__getattribute__") = false := by decide +kernel
  have hx1 : (onTheHeap (Value.ref C) && Value.builtin "BaseException.__getattribute__" == Value.builtin "object.__getattribute__") = false := by rw [hx2]; rfl
  dsimp only
  rw [hx1]
  show wpAny _ _ (getAttrByItsOwn _ _ _ _ _ _) _ _ _
  unfold getAttrByItsOwn
  refine wpAny_bind ?_
  show wpAny _ _ (typeLookup (.ref C) "__getattr__") _ _ _
  refine L2.at ?_
  refine wpAny_bind (wpAny_attempt (wpAny_holding ?_))
  have hx0 : (expr && onTheHeap (Value.builtin "BaseException.__getattribute__")) = false := by cases expr <;> rfl
  unfold callGetattribute
  rw [hx0]
  show wpAny _ _ (boundAndCalled _ _ _) _ _ _
  unfold boundAndCalled
  have S : Slot "BaseException" "__getattribute__" "BaseException.__getattribute__" :=
    Slot.of (owner := "BaseException") (n := "__getattribute__") (by rw [typeLookup_type, builtinLookup_eq_fast]; kernel_rfl) (by decide +kernel) (by decide +kernel) (by decide +kernel) (.inl (by decide +kernel)) (by rw [isSubtype_type]; kernel_rfl)
  refine wpAny_bind (wpAny_of_eq (S.bind _) ?_)
  refine wpAny_call (codeAny_call_builtin S.plain F.entry_bexc_ga (@check_slot (model prog w) _ _ _ "BaseException.__getattribute__" "BaseException" "__getattribute__" (.ref e) [.str name t] [] _ (by decide +kernel) (by decide +kernel) L4 (F.args_bexc_ga _ _) ?_))
  show wpAny _ _ (Builtin.«object.__getattribute__» ⟨[.ref e, .str name t], []⟩) _ _ _
  rw [show Builtin.«object.__getattribute__» ⟨[.ref e, .str name t], []⟩ = (typeOf (.ref e) >>= fun tp => find (.ref e) tp name >>= fun r => match r with
    | .value v => ret v
    | .bind g a => bindTo g a (.ref e) tp
    | .missing => do
      if tp == .type "module" then
        if ← isOpaqueModuleObj (.ref e) then
          let byTheModulesOwnEntry := match (← stack).drop 1 with
            | (.builtin "module.__getattribute__" ⟨m :: _, _⟩, _) :: _ => m == .ref e
            | _ => false
          if !byTheModulesOwnEntry then unsupported "thirdparty:object.__getattribute__:a-miss-on-an-opaque-module"
      if tp == .type "type" then
        if let some key ← opaqueClassAbove (.ref e) then unsupported s!"thirdparty:{key.toString}.{name.toString}:object.__getattribute__-misses-on-an-opaque-class"
      noSuchAttribute (.ref e) name) from by rfl]
  refine wpAny_bind (L0.at (wpAny_bind (L3.at ?_)))
  refine wpAny_pure ?_
  show wpAny _ _ (handedOut v) _ _ _
  rw [handedOut_of hh]
  exact wpAny_pure h
theorem exc_refuse (self : Value) : refuseLoop self "__setattr__" (.ref 87 :: excTail) = pure () := by
  rw [refuseLoop_ref, refuseLoop_ref]
  kernel_rfl
theorem exc_open {ox : Obj} {od : Option Obj} {name : Str} {tk : Tok} {v : Value} {cd : ClassData} {R : Result → Shared → Prop} (X : K.In s.heap) (I : InstAt s.heap e ox 87 od) (hc : clsIn K 87 = some cd) (hmro : cd.mro = .ref 87 :: excTail) (ht : findIn K (.ref 87) name = some none)
    (h : wpAny (model prog w) A.in1 (storeInOwnDict (.ref e) (.ref 87) (.str name tk) name v false)
      (fun fin s' => match fin with | .done f => R (.ok f) s' | .again c' => c'.quiet = true ∧ codeAny (model prog w) A c' R s') (fun e s' => R (.error e) s') s) :
    codeAny (model prog w) A (.call (.builtin "object.__setattr__") ⟨[.ref e, .str name tk, v], []⟩) R s := by
  have SF := PySem.F.store_object
  have sub : Looks (model prog w) s.heap (isInstance (.ref e) (.type "object")) true := I.type.andThen (looks_mroIn X (by unfold mroIn; rw [hc, Option.bind_some, hmro]; rfl))
  refine codeAny_call_builtin SF.slot.plain SF.entry (@check_slot (model prog w) _ _ s "object.__setattr__" "object" "__setattr__" (.ref e) [.str name tk, v] [] _ SF.kind SF.split sub (SF.args (.ref e) (.str name tk) v) ?_)
  have hm : Looks (model prog w) s.heap (mroOf (.ref 87)) (.ref 87 :: excTail) := hmro ▸ (looks_clsIn X hc).andThen .now
  rw [osa_eq, refuse_eq]
  refine wpAny_bind (wpAny_bind (I.type.here (wpAny_bind (hm.here ?_))))
  rw [exc_refuse]
  refine wpAny_pure (wpAny_bind (I.type.here (wpAny_bind ((looks_findIn X ht).here (wpAny_bind ?_)))))
  exact wpAny_pure h
end
end

section
theorem start_Ex4 : True := by
  w_top off
  k_with_none
  trivial
open PySem PySem.W PyProof.Rows PySem.Spec PySem.Calls Builtin Builtin.ObjectAttr
set_option maxRecDepth 100000
set_option maxHeartbeats 8000000
/-- a GrammarError with its own dict -/
noncomputable abbrev excObjD (t d : Addr) : Obj := { cls := .ref 87, dict := some d, data := .fields #[.ref t, .none, .none, .none, .bool false, .none] }
section
variable {prog : Program} {w : World} {A : Around} {E : Value → Shared → Prop} {s : Shared} {h₀ : Heap} {L : Addr} {m : Str → Option Value} {news : List (Addr × Obj)} {Q : Unit → Shared → Prop} {e t d : Addr} {K : Frag} {cd : ClassData} {name : Str} {v : Value}
theorem put_end {A' : Around} {R : Fin → Shared → Prop} {E' : Value → Shared → Prop} {tk : Tok} {es es' : List DictEntry} {n n' : Nat} (F : Fr h₀ L s.heap m) (N : News h₀ L s.heap ((d, dictOf es n) :: news)) (hne : ∀ p ∈ news, p.1 ≠ d) (hl : (getL name es).isSome = true)
    (e : (putL name (PyData.keyHash w.params name) (.str name s.toks) v es, putN name es n) = (es', n')) (hz : es'.length ≤ 1000)
    (h : ∀ h', Fr h₀ L h' m → News h₀ L h' ((d, dictOf es' n') :: news) → R (.done (.ret .none)) { s with heap := h', toks := s.toks + 1 }) :
    wpAny (model prog w) A' (storeInDict d (.str name tk) name v) R E' s := by
  obtain ⟨e1, e2⟩ := Prod.mk.inj e
  have ep : Obj.putName name (PyData.keyHash w.params name) (.str name s.toks) v (dictOf es n) = dictOf es' n' := by rw [putName_dict, e1, e2]
  have U := fr_upd (f := Obj.putName name (PyData.keyHash w.params name) (.str name s.toks) v) F N hne (by rw [ep]; rfl)
  rw [ep] at U
  have D := (N _ (.head _)).1
  have D' := (U.2 _ (.head _)).1
  unfold storeInDict newKeyGuard
  refine wpAny_bind (wpAny_pure (wpAny_bind ?_))
  unfold nsSet
  refine wpAny_bind (wpAny_bind (wpAny_askSetting (wpAny_pure (wpAny_bind (wpAny_mkText (wpAny_bind (wpAny_loadPart D ?_)))))))
  dsimp only
  have c : (!(es.toArray).any (·.key.isStr name) && (es.toArray).any (·.refKey)) = false := by
    rw [← Array.any_toList, ← Array.any_toList]
    unfold getL at hl
    split at hl
    · rename_i en he
      rw [List.any_eq_true.mpr ⟨en, List.mem_of_find?_eq_some he, List.find?_some he⟩]; rfl
    · split at hl
      · cases hl
      · rename_i z; rw [Bool.not_eq_true] at z; rw [z, Bool.and_false]
  rw [aRefKeyMayBeTheName_at, c]
  refine wpAny_updatePart D ?_
  refine wpAny_bind (wpAny_lookBehind D' (pastItsLine_dict (by rw [List.size_toArray, sizeLine_eq]; omega)) ?_)
  exact wpAny_pure (h _ U.1 U.2)
theorem exc_set0 (F : Fr h₀ L s.heap m) (N : News h₀ L s.heap ((e, excObj t) :: news)) (hne : ∀ p ∈ news, p.1 ≠ e) (X : K.In h₀)
    (hc : clsIn K 87 = some cd) (hmro : cd.mro = .ref 87 :: excTail) (hdi : cd.hasDict = true) (hs : findIn K (.ref 87) "__setattr__" = some (some (.builtin "object.__setattr__"))) (ht : findIn K (.ref 87) name = some none)
    (h : ∀ d h' q, Fr h₀ L h' m → News h₀ L h' ((d, dictOf [⟨PyData.keyHash w.params name, .str name q, v⟩] 1) :: (e, excObjD t d) :: news) → e < d → (∀ p ∈ news, p.1 < d) → Q () { s with heap := h', toks := s.toks + 2 }) :
    wpAny (model prog w) A (setAttr (.ref e) name v) Q E s := by
  obtain ⟨hh, g, dr, tk, os⟩ := s
  have X' := X.keeps F.keep
  have he : hh.get? e = some (excObj t) := (N _ (.head _)).1
  have I : InstAt hh e (excObj t) 87 none := ⟨he, rfl, rfl, trivial⟩
  refine set_plain X' I hs ?_
  refine exc_open (s := ⟨hh, g, dr, tk + 1, os⟩) X' I hc hmro ht ?_
  unfold storeInOwnDict
  show wpAny _ _ (ownDictForStores (.ref e) >>= _) _ _ _
  unfold ownDictForStores instanceDict
  refine wpAny_bind (wpAny_bind (wpAny_loadPart he ?_))
  dsimp only
  refine wpAny_bind ((looks_clsIn X' hc).at ?_)
  rw [hdi]
  refine wpAny_bind (wpAny_alloc ?_)
  have N1 := N.push F emptyDict
  have F1 := F.push emptyDict
  have hlt : ∀ p ∈ (e, excObj t) :: news, p.1 < hh.objs.size := fun p hp => Heap.lt_size (N p hp).1
  have N2 : News h₀ L (hh.push emptyDict) ((e, excObj t) :: (hh.objs.size, emptyDict) :: news) := fun p hp => N1 p (by
    rcases List.mem_cons.mp hp with rfl | hp
    · exact .tail _ (.head _)
    · rcases List.mem_cons.mp hp with rfl | hp
      · exact .head _
      · exact .tail _ (.tail _ hp))
  have U := fr_upd (s := ⟨hh.push emptyDict, g, dr, tk, os⟩) (f := fun o => { o with dict := some hh.objs.size }) F1 N2 (fun p hp => by
    rcases List.mem_cons.mp hp with rfl | hp
    · exact Nat.ne_of_gt (hlt _ (.head _))
    · exact hne p hp) rfl
  refine wpAny_bind (wpAny_update (N2 _ (.head _)).1 ?_)
  refine wpAny_pure ?_
  have N3 : News h₀ L ((hh.push emptyDict).update e fun o => { o with dict := some hh.objs.size }) ((hh.objs.size, dictOf [] 0) :: (e, excObjD t hh.objs.size) :: news) := fun p hp => U.2 p (by
    rcases List.mem_cons.mp hp with rfl | hp
    · exact .tail _ (.head _)
    · rcases List.mem_cons.mp hp with rfl | hp
      · exact .head _
      · exact .tail _ (.tail _ hp))
  refine put_end (s := ⟨(hh.push emptyDict).update e fun o => { o with dict := some hh.objs.size }, g, dr, tk + 1, os⟩) U.1 N3 (fun p hp => Nat.ne_of_lt (by
    rcases List.mem_cons.mp hp with rfl | hp
    · exact hlt (e, excObj t) (.head _)
    · exact hlt _ (.tail _ hp))) rfl (es' := [⟨PyData.keyHash w.params name, .str name (tk + 1), v⟩]) (n' := 1) rfl (by simp) fun h' F' N' => ?_
  exact h _ _ _ F' N' (hlt _ (.head _)) fun p hp => hlt p (.tail _ hp)
theorem exc_set1 {es es' : List DictEntry} {n n' : Nat} (F : Fr h₀ L s.heap m) (N : News h₀ L s.heap ((d, dictOf es n) :: (e, excObjD t d) :: news)) (hde : e ≠ d) (hne : ∀ p ∈ news, p.1 ≠ d) (X : K.In h₀)
    (hc : clsIn K 87 = some cd) (hmro : cd.mro = .ref 87 :: excTail) (hdi : cd.hasDict = true) (hs : findIn K (.ref 87) "__setattr__" = some (some (.builtin "object.__setattr__"))) (ht : findIn K (.ref 87) name = some none)
    (hl : (getL name es).isSome = true)
    (hp : (putL name (PyData.keyHash w.params name) (.str name (s.toks + 1)) v es, putN name es n) = (es', n')) (hz : es'.length ≤ 1000)
    (h : ∀ h', Fr h₀ L h' m → News h₀ L h' ((d, dictOf es' n') :: (e, excObjD t d) :: news) → Q () { s with heap := h', toks := s.toks + 2 }) :
    wpAny (model prog w) A (setAttr (.ref e) name v) Q E s := by
  obtain ⟨hh, g, dr, tk, os⟩ := s
  have X' := X.keeps F.keep
  have he : hh.get? e = some (excObjD t d) := (N _ (.tail _ (.head _))).1
  have I : InstAt hh e (excObjD t d) 87 (some (dictOf es n)) := ⟨he, rfl, rfl, (N _ (.head _)).1⟩
  refine set_plain X' I hs ?_
  refine exc_open (s := ⟨hh, g, dr, tk + 1, os⟩) X' I hc hmro ht ?_
  unfold storeInOwnDict
  show wpAny _ _ (ownDictForStores (.ref e) >>= _) _ _ _
  unfold ownDictForStores instanceDict
  refine wpAny_bind (wpAny_bind (wpAny_loadPart he ?_))
  dsimp only
  refine wpAny_bind ((looks_clsIn X' hc).at ?_)
  rw [hdi]
  refine wpAny_pure (a := some d) ?_
  refine put_end (s := ⟨hh, g, dr, tk + 1, os⟩) F N (fun p hp => by
    rcases List.mem_cons.mp hp with rfl | hp
    · exact hde
    · exact hne p hp) hl hp hz fun h' F' N' => ?_
  exact h _ F' N'
end
end

section
theorem start_Kd : True := by
  w_top off
  k_with_none
  (k_with "noraise!" => (repeat' with_reducible first
    | assumption
    | exact KD.pure _
    | exact KD.unsupported _
    | exact KD.field _ _
    | exact KD.setField _ _ _
    | exact KD.load _
    | exact KD.stack
    | exact KD.alloc _
    | exact KD.update _ _ (fun _ => rfl) (fun _ => rfl)
    | apply KD.ite
    | apply KD.bind
    | intro _
    | split))
  trivial
open PySem PySem.W PyProof.Rows PySem.Spec
noncomputable def DK (h h' : Heap) : Prop := ∀ b o, h.get? b = some o → ∃ o', h'.get? b = some o' ∧ o'.dict = o.dict
theorem DK.refl (h : Heap) : DK h h := fun _ o e => ⟨o, e, rfl⟩
theorem DK.trans {a b c : Heap} (x : DK a b) (y : DK b c) : DK a c := fun p o e => by
  obtain ⟨o', e', q⟩ := x p o e
  obtain ⟨o'', e'', q'⟩ := y p o' e'
  exact ⟨o'', e'', q'.trans q⟩
theorem DK.push (h : Heap) (o : Obj) : DK h (h.push o) := fun _ o' e => ⟨o', Heap.get?_push_of_some _ e, rfl⟩
theorem DK.update (h : Heap) (a : Addr) (f : Obj → Obj) (hf : ∀ o, (f o).dict = o.dict) (hr : ∀ o, (f o).isFreed = o.isFreed) : DK h (h.update a f) := fun b o e => by
  by_cases hb : a = b
  · subst hb
    refine ⟨f o, Heap.get?_update_self _ e ?_, hf o⟩
    rw [hr]
    exact (Heap.get?_some_iff.mp e).2
  · exact ⟨o, by rw [Heap.get?_update_other _ _ hb]; exact e, rfl⟩
structure KD {α : Type} (t : Sem α) : Prop where
  out : ∀ (M : Model) (Γ : PySem.Ctx) (P : α → Pos → Shared → Prop) (Ee : Value → Pos → Shared → Prop) (p : Pos) (s : Shared), Sem.wp M Γ t P Ee p s → Sem.wp M Γ t (fun a p' s' => P a p' s' ∧ DK s.heap s'.heap) Ee p s
namespace KD
variable {α β : Type}
theorem pure (a : α) : KD (Pure.pure a : Sem α) := ⟨fun _ _ _ _ _ s h => ⟨h, DK.refl _⟩⟩
theorem unsupported (w : String) : KD (PySem.unsupported w : Sem α) := ⟨fun _ _ _ _ _ _ h => h⟩
theorem bind {m : Sem α} {f : α → Sem β} (hm : KD m) (hf : ∀ a, KD (f a)) : KD (m >>= f) := ⟨fun M Γ P Ee p s h => by
  rw [Sem.wp_bind'] at h ⊢
  refine Sem.wp_mono M Γ m (fun a p' s' h' => ?_) (fun _ _ _ x => x) p s (hm.out M Γ _ Ee p s h)
  exact Sem.wp_mono M Γ (f a) (fun b p'' s'' h'' => ⟨h''.1, h'.2.trans h''.2⟩) (fun _ _ _ x => x) p' s' ((hf a).out M Γ P Ee p' s' h'.1)⟩
theorem ite {c : Prop} [Decidable c] {t u : Sem α} (ht : KD t) (hu : KD u) : KD (if c then t else u) := by split <;> assumption
theorem load (a : Addr) : KD (PySem.load a) := ⟨fun M Γ P Ee p s h => by
  unfold PySem.load at h ⊢
  rw [Sem.wp_load] at h ⊢
  obtain ⟨o, ho, hp⟩ := h
  exact ⟨o, ho, hp, DK.refl _⟩⟩
theorem alloc (o : Obj) : KD (PySem.alloc o) := ⟨fun _ _ _ _ _ s h => ⟨h, DK.push _ _⟩⟩
theorem update (a : Addr) (f : Obj → Obj) (hf : ∀ o, (f o).dict = o.dict) (hr : ∀ o, (f o).isFreed = o.isFreed) : KD (PySem.update a f) := ⟨fun M Γ P Ee p s h => by
  have h' := (Sem.wp_cmd_update M Γ Ee p s a f P).mp h
  exact (Sem.wp_cmd_update M Γ Ee p s a f _).mpr ⟨h'.1, h'.2, DK.update _ _ _ hf hr⟩⟩
theorem stack : KD PySem.stack := ⟨fun M Γ P Ee p s h => by
  unfold PySem.stack at h ⊢
  rw [Sem.wp_stack] at h ⊢
  exact ⟨h, DK.refl _⟩⟩
theorem field (v : Value) (i : Nat) : KD (PySem.field v i) := ⟨fun M Γ P Ee p s h => by
  rw [wp_field_iff] at h ⊢
  obtain ⟨a, o, vs, x, e, ho, hd, hx, hp⟩ := h
  exact ⟨a, o, vs, x, e, ho, hd, hx, hp, DK.refl _⟩⟩
theorem setField (v : Value) (i : Nat) (x : Value) : KD (PySem.setField v i x) := ⟨fun M Γ P Ee p s h => by
  rw [wp_setField_iff] at h ⊢
  obtain ⟨a, o, vs, e, ho, hd, hi, hp⟩ := h
  exact ⟨a, o, vs, e, ho, hd, hi, hp, DK.update _ _ _ (fun o => by obtain ⟨c, d, dt, sl⟩ := o; cases dt <;> rfl) (fun o => by obtain ⟨c, d, dt, sl⟩ := o; cases dt <;> rfl)⟩⟩
end KD
local macro_rules | `(tactic| noraise) => `(tactic| k_extra "noraise!")
theorem kd_behindIsImport (env : Env) (outer : List Env) : KD (behindIsImport env outer) := by
  unfold behindIsImport
  noraise
theorem kd_underTheClaimsCaller : KD underTheClaimsCaller := by
  unfold underTheClaimsCaller
  noraise
theorem kd_keptBack (env : Env) (i : Bool) (l : List Env) : KD (keptBack env i l) := by
  have := kd_underTheClaimsCaller
  cases l <;> unfold keptBack <;> noraise
theorem kd_readyFrames : ∀ l : List Env, KD (readyFrames l)
  | [] => KD.pure _
  | env :: outer => by
    have ih := kd_readyFrames outer
    have h1 := kd_behindIsImport env outer
    have h2 := fun i => kd_keptBack env i outer
    unfold readyFrames
    noraise
    all_goals first | exact h2 _ | (refine KD.update _ _ (fun o => ?_) (fun o => ?_) <;> (obtain ⟨c, d, dt, sl⟩ := o; cases dt <;> rfl))
theorem kd_frameObject (l : List Env) : KD (frameObject l) := by
  cases l with
  | nil => exact KD.pure _
  | cons env outer =>
    have := kd_readyFrames (env :: outer)
    unfold frameObject
    noraise
theorem kd_frameEnvs : KD frameEnvs := by
  unfold frameEnvs
  noraise
theorem kd_frameOf (env : Env) : KD (PySem.frameOf env) := by
  have h1 := kd_frameEnvs
  have h2 := kd_frameObject
  unfold PySem.frameOf
  noraise
  all_goals first | exact h2 _ | skip
theorem kd_entryPlaceOf (f : Addr) (hadNext : Bool) : KD (entryPlaceOf f hadNext) := by
  unfold entryPlaceOf
  noraise
theorem kd_newEntry (a b c d e : Value) (pl : List Value) : KD (EntryCells.newEntry a b c d e pl) := by
  unfold EntryCells.newEntry newFields newObj newObjAsIs
  noraise
theorem kd_setFlight (e : Value) (f : Option Addr) : KD (setFlight e f) := by
  unfold setFlight
  noraise
theorem kd_noteFrame (e : Value) (env : Env) : KD (noteFrame e env) := by
  have h1 := kd_frameOf env
  have h2 := fun f b => kd_entryPlaceOf f b
  have h3 := kd_newEntry
  unfold noteFrame
  noraise
  all_goals first | exact h2 _ _ | exact h3 _ _ _ _ _ _ | skip
theorem kd_leaving (env : Env) (e : Value) : KD (leaving env e) := by
  have h1 := kd_noteFrame e env
  have h2 := kd_setFlight e none
  unfold leaving
  noraise
theorem kd_any {α : Type} {M : Model} {A : Around} {t : Sem α} {Q : α → Shared → Prop} {E : Value → Shared → Prop} {s : Shared} (k : KD t) (h : wpAny M A t Q E s) : wpAny M A t (fun a s' => Q a s' ∧ DK s.heap s'.heap) E s :=
  fun Γ p hΓ => k.out M Γ (fun a _ s' => Q a s') (fun e _ s' => E e s') p s (h Γ p hΓ)
end

section
theorem start_Rx : True := by
  w_top off
  k_with_none
  trivial
open PySem PySem.W PyProof.Rows PySem.Spec PySem.Calls
noncomputable def RaisedX (base : Heap) (l : List Env) (e d : Addr) (news : List (Addr × Obj)) (h : Heap) : Prop :=
  RaisedN base l e (.ref 87) news h ∧ ∃ o, h.get? e = some o ∧ o.dict = some d
section
variable {M : Model} {A : Around} {E : Value → Shared → Prop} {s' : Shared} {base g g₂ h : Heap} {outer : List Env} {L a e t d : Addr} {m : Str → Option Value} {name : Str} {scope : Scope} {cd : Value} {Q : Unit → Shared → Prop} {news : List (Addr × Obj)} {od : Obj}
theorem leave_newX (K : Below A base outer g) (F : Fr g L s'.heap m) (N : News g L s'.heap ((d, od) :: (e, excObjD t d) :: news)) (hde : d ≠ e) (hne : ∀ p ∈ news, p.1 ≠ e)
    (hQ : ∀ h', RaisedX base outer e d ((d, od) :: news) h' → g.UpToSlots h' → Q () { s' with heap := h' }) (hk : scope.kind = .function := by rfl) :
    wpAny M (A.deeper (envOf name scope L a cd)) (leaving (envOf name scope L a cd) (.ref e)) Q E s' := by
  have K' := K.push (name := name) (a := a) (cd := cd) F hk
  have he := N (e, excObjD t d) (.tail _ (.head _))
  have hbe : base.get? e = none := fresh_of_stays K.stays he.2.2
  have hin : ∀ env ∈ (envOf name scope L a cd :: outer), ∀ b, env.frame = some b → b ∈ e :: (envOf name scope L a cd :: outer).filterMap (·.frame) := fun env he b hb => .tail _ (List.mem_filterMap.mpr ⟨env, he, hb⟩)
  have st : base.StaysIn (hideAll s'.heap (e :: (envOf name scope L a cd :: outer).filterMap (·.frame))) := fun b o q => hideAll_get _ (K'.stays b o q) fun hm => by
    rcases List.mem_cons.mp hm with rfl | hm
    · rw [hbe] at q; cases q
    · rw [(K'.frames.mem hm).1] at q; cases q
  have hl : ∀ q ∈ (d, od) :: news, (hideAll s'.heap (e :: (envOf name scope L a cd :: outer).filterMap (·.frame))).get? q.1 = some q.2 ∧ base.get? q.1 = none := fun q hq => by
    have hq' : q ∈ (d, od) :: (e, excObjD t d) :: news := by
      rcases List.mem_cons.mp hq with rfl | hq
      · exact .head _
      · exact .tail _ (.tail _ hq)
    refine ⟨hideAll_get _ (N q hq').1 fun hm => ?_, fresh_of_stays K.stays (N q hq').2.2⟩
    rcases List.mem_cons.mp hm with hm | hm
    · rcases List.mem_cons.mp hq with rfl | hq
      · exact hde hm
      · exact hne q hq hm
    · obtain ⟨env, he, hf⟩ := List.mem_filterMap.mp hm
      rcases List.mem_cons.mp he with rfl | he
      · exact (N q hq').2.1 (Option.some.inj hf).symm
      · obtain ⟨o, ho, _⟩ := (K.frames.mem (List.mem_filterMap.mpr ⟨env, he, hf⟩)).2
        rw [(N q hq').2.2] at ho; cases ho
  have hen : (hideAll s'.heap (e :: (envOf name scope L a cd :: outer).filterMap (·.frame))).get? e = none := hideAll_none _ (.head _)
  have base' : wpAny M (A.deeper (envOf name scope L a cd)) (leaving (envOf name scope L a cd) (.ref e)) (fun _ s'' => ∃ h', s'' = { s' with heap := h' } ∧ RaisedN base outer e (.ref 87) ((d, od) :: news) h' ∧ g.UpToSlots h') E s' := by
    refine wpAny_leaving_firstW (a0 := .ref t) K'.stack (funFrames_hide K'.frames hin) rfl he.1 (fun b o hb => of_hideAll _ hb) hen rfl rfl rfl fun h' hL => ?_
    obtain ⟨k1, ⟨_, _, k2⟩, k3, k4⟩ := hL
    exact ⟨h', rfl, ⟨_, .ref t, st, hl, k1, hen, k2, k3⟩, (Heap.UpToSlots.of_keeps F.keep).trans k4⟩
  refine wpAny_mono (kd_any (kd_leaving _ _) base') (fun _ s'' x => ?_) fun _ _ x => x
  obtain ⟨⟨h', rfl, hR, hU⟩, hD⟩ := x
  obtain ⟨o', ho', hd'⟩ := hD e _ he.1
  exact hQ h' ⟨hR, o', ho', hd'⟩ hU
theorem leave_onX (K : Below A base outer g) (F : Fr g L g₂ m) (R : RaisedX base (envOf name scope L a cd :: outer) e d news s'.heap) (hsm : g₂.UpToSlots s'.heap)
    (hQ : ∀ h', RaisedX base outer e d news h' → g.UpToSlots h' → Q () { s' with heap := h' }) :
    wpAny M (A.deeper (envOf name scope L a cd)) (leaving (envOf name scope L a cd) (.ref e)) Q E s' := by
  have base' : wpAny M (A.deeper (envOf name scope L a cd)) (leaving (envOf name scope L a cd) (.ref e)) (fun _ s'' => ∃ h', s'' = { s' with heap := h' } ∧ RaisedN base outer e (.ref 87) news h' ∧ g.UpToSlots h') E s' :=
    leave_onN K F R.1 hsm fun h' x y => ⟨h', rfl, x, y⟩
  obtain ⟨o, ho, hd⟩ := R.2
  refine wpAny_mono (kd_any (kd_leaving _ _) base') (fun _ s'' x => ?_) fun _ _ x => x
  obtain ⟨⟨h', rfl, hR, hU⟩, hD⟩ := x
  obtain ⟨o', ho', hd'⟩ := hD e _ ho
  exact hQ h' ⟨hR, o', ho', hd'.trans hd⟩ hU
theorem raise_end {w : World} (K : Below A base outer g) (F : Fr g L s'.heap m) (X : (Mine.K0 w.params).In g) (N : News g L s'.heap ((d, od) :: (e, excObjD t d) :: news)) (hde : d ≠ e) (hne : ∀ p ∈ news, p.1 ≠ e) {E₂ : Value → Shared → Prop}
    (hQ : ∀ h', RaisedX base outer e d ((d, od) :: news) h' → g.UpToSlots h' → E (.ref e) { s' with heap := h' }) (hk : scope.kind = .function := by rfl) :
    RaisableX (fun e s' => wpAny M (A.deeper (envOf name scope L a cd)) (leaving (envOf name scope L a cd) e) (fun _ s'' => E e s'') E₂ s') (.ref e) s' :=
  ⟨e, t, some d, rfl, errCls_of (X.keeps F.keep), (N _ (.tail _ (.head _))).1, leave_newX K F N hde hne hQ hk⟩
end
inductive ErrAt (news : List (Addr × Obj)) (d : Addr) (off : Int) : Prop
  | mk (px dpx : Addr) (h1 h2 g1 g2 g3 : Int) (q1 q2 u1 u2 u3 u4 : Tok) (n3 : Nat) (v1 vl vc : Value) (a : (d, dictOf [⟨h1, .str (Str.ofString "what") q1, v1⟩, ⟨h2, .str (Str.ofString "at") q2, .ref px⟩] 2) ∈ news) (b : (px, instObj 45 dpx) ∈ news)
    (c : (dpx, dictOf [⟨g1, .str (Str.ofString "offset") u1, .int off u4⟩, ⟨g2, .str (Str.ofString "line") u2, vl⟩, ⟨g3, .str (Str.ofString "column") u3, vc⟩] n3) ∈ news) : ErrAt news d off
theorem errAt_mk {news : List (Addr × Obj)} {d : Addr} {off : Int} {px dpx : Addr} {h1 h2 g1 g2 g3 : Int} {q1 q2 u1 u2 u3 u4 : Tok} {n3 : Nat} {v1 vl vc : Value} (a : (d, dictOf [⟨h1, .str (Str.ofString "what") q1, v1⟩, ⟨h2, .str (Str.ofString "at") q2, .ref px⟩] 2) ∈ news) (b : (px, instObj 45 dpx) ∈ news)
    (c : (dpx, dictOf [⟨g1, .str (Str.ofString "offset") u1, .int off u4⟩, ⟨g2, .str (Str.ofString "line") u2, vl⟩, ⟨g3, .str (Str.ofString "column") u3, vc⟩] n3) ∈ news) : ErrAt news d off :=
  ⟨px, dpx, h1, h2, g1, g2, g3, q1, q2, u1, u2, u3, u4, n3, v1, vl, vc, a, b, c⟩
end

section
theorem start_Rd : True := by
  w_top off
  k_with_none
  (k_with "subscriptTail!" => (k_here; (with_reducible show wpAny _ _ (subscriptTail _ _ (Value.ref _) (Value.int (Nat.cast _) _)) _ _ _); (with_unfolding_all refine' item_nat ?zzk1 ?zzk2 ?zzk3 ?zzk4 ?_ ?zzk6; (case zzk1 => k_asm); (case zzk2 => k_mem); (case zzk3 => assumption); (case zzk4 => assumption); (case zzk6 => with_unfolding_all rfl); k_whole)))
  trivial
open PySem PySem.W PyProof.Rows PySem.Spec PySem.Calls
set_option maxRecDepth 100000
set_option maxHeartbeats 8000000
noncomputable abbrev Tk := Str × Value × Dat
/-- what stands frozen for the reader at x, whose dict is dx: its tokens -/
structure RdF (fz : List (Addr × Obj)) (x dx tl : Addr) (toks : List Tk) : Prop where
  hx : (x, instObj 231 dx) ∈ fz
  len : toks.length < 900
  tl : ∃ (vs : List Value) (n : Nat), (tl, W.listOf vs.toArray n) ∈ fz ∧ ∀ (k : Nat) (t : Tk), toks[k]? = some t → ∃ v, vs[k]? = some v ∧ TokIn fz v t.1 t.2.1 (7 * (k : Int))
  dat : ∀ t ∈ toks, DatIn fz t.2.1 t.2.2 ∧ t.1.length < 100
theorem RdF.mono {fz fz' : List (Addr × Obj)} {x dx tl : Addr} {toks : List Tk} (h : RdF fz x dx tl toks) (hs : ∀ p ∈ fz, p ∈ fz') : RdF fz' x dx tl toks := by
  obtain ⟨a, b, ⟨vs, n, c, d⟩, e⟩ := h
  exact ⟨hs _ a, b, ⟨vs, n, hs _ c, fun k t q => by obtain ⟨v, r, u⟩ := d k t q; exact ⟨v, r, u.mono hs⟩⟩, fun t q => ⟨(e t q).1.mono hs, (e t q).2⟩⟩
structure Cx (w : World) (mean : ExcName → Option Value) (mg mb : Str → Option Value) (dp un : Nat) (cs : Scope) (A₀ : Around) (base : Heap) (outer : List Env) (h₀ : Heap) (room : Nat) : Prop where
  B : Below A₀ base outer h₀
  X : (Mine.K0 w.params).In h₀
  T : Top Mine.Vw LS mean mg mb h₀
  hk : cs.kind = .function
  hd : dp + room < recursionLimit
  hu : un + 40 * room < cLine
section
variable {w : World} {mean : ExcName → Option Value} {mg mb : Str → Option Value} {dp un : Nat} {gd : Option (List Code)} {cn : Str} {cs : Scope} {a : Addr} {ccd : Value} {cl : List (Str × Addr)} {outer : List Env} {A₀ : Around} {base h₀ : Heap} {L : Addr} {m : Str → Option Value} {s : Shared} {Q E : Value → Shared → Prop}
  {fz r : List (Addr × Obj)} {x dx tl : Addr} {ha hb : Int} {ta tb : Tok} {toks : List Tk} {k : Nat} {tk : Tok} {kd : Str} {wv : Value} {d : Dat}
local macro_rules | `(tactic| k_mem) => `(tactic| first | with_reducible assumption | (refine' mem_tl ?_; k_mem))
local macro_rules | `(tactic| k_all) => `(tactic| with_reducible assumption)
local macro_rules | `(tactic| k_handed) => `(tactic| with_reducible assumption)
theorem kind_c (C : Cx w mean mg mb dp un cs A₀ base outer h₀ 5) (F : Fr h₀ L s.heap m) (N : News h₀ L s.heap ((dx, rdObj ha hb ta tb tl k tk) :: r)) (hf : ∀ p ∈ fz, p ∈ r) (R : RdF fz x dx tl toks) (hv : toks[k]? = some (kd, wv, d))
  (ret : ∀ h' tk' t', Fr h₀ L h' m → News h₀ L h' ((dx, rdObj ha hb ta tb tl k tk) :: r) → Q (.str kd t') { s with heap := h', toks := tk' }) :
  wpAny (model PG w) (ktrTop dp un gd cn cs L a ccd cl outer) (call (.ref 179) [.ref x]) Q E s := by
  obtain ⟨B, X, T, hk, hd, hu⟩ := C
  obtain ⟨hx, hlen, ⟨vs, n, htl, htk⟩, hdat⟩ := R.mono hf
  obtain ⟨v, hv', ht⟩ := htk k _ hv
  obtain ⟨xt, dxt, px, dpx, h1, h2, h3, h4, g1, g2, g3, t1, t2, t3, t4, t5, u1, u2, u3, u4, n2, n3, vtx, vl, vc, e, ma, mb, mc, md⟩ := ht
  subst e
  have hk2 : k < 1000 := by have := (List.getElem?_eq_some_iff.mp hv).1; omega
  clear htk hdat hv hf R
  refine wpAny_call ?_
  k_dflt ktr_enter
  k_steps
  exact ret _ _ _ (by assumption) (by assumption)
theorem take_c (C : Cx w mean mg mb dp un cs A₀ base outer h₀ 5) (F : Fr h₀ L s.heap m) (N : News h₀ L s.heap ((dx, rdObj ha hb ta tb tl k tk) :: r)) (hne : ∀ p ∈ r, p.1 ≠ dx) (hf : ∀ p ∈ fz, p ∈ r) (R : RdF fz x dx tl toks) (hv : toks[k]? = some (kd, wv, d))
  (ret : ∀ h' tk' t', Fr h₀ L h' m → News h₀ L h' ((dx, rdObj ha hb ta tb tl (k + 1) t') :: r) → Q wv { s with heap := h', toks := tk' }) :
  wpAny (model PG w) (ktrTop dp un gd cn cs L a ccd cl outer) (call (.ref 186) [.ref x]) Q E s := by
  obtain ⟨B, X, T, hk, hd, hu⟩ := C
  obtain ⟨hx, hlen, ⟨vs, n, htl, htk⟩, hdat⟩ := R.mono hf
  obtain ⟨v, hv', ht⟩ := htk k _ hv
  obtain ⟨xt, dxt, px, dpx, h1, h2, h3, h4, g1, g2, g3, t1, t2, t3, t4, t5, u1, u2, u3, u4, n2, n3, vtx, vl, vc, e, ma, mb, mc, md⟩ := ht
  subst e
  have hk2 : k < 1000 := by have := (List.getElem?_eq_some_iff.mp hv).1; omega
  have hw : handedIn wv = true := (hdat _ (List.mem_of_getElem? hv)).1.handed
  clear htk hdat hv hf R
  refine wpAny_call ?_
  k_dflt ktr_enter
  k_steps
  exact ret _ _ _ (by assumption) (by assumption)
end
section
variable {w : World} {mean : ExcName → Option Value} {mg mb : Str → Option Value} {dp un n k : Nat} {gd : Option (List Code)} {cn : Str} {cs : Scope} {a : Addr} {ccd : Value} {cl : List (Str × Addr)} {outer : List Env} {A₀ : Around} {base h₀ : Heap} {L : Addr} {s : Shared} {E : Value → Shared → Prop}
theorem Cx.le (h : Cx w mean mg mb dp un cs A₀ base outer h₀ n) (e : Nat.ble k n = true) : Cx w mean mg mb dp un cs A₀ base outer h₀ k := by
  have e := Nat.le_of_ble_eq_true e
  have hd := h.hd
  have hu := h.hu
  exact ⟨h.B, h.X, h.T, h.hk, by omega, by omega⟩
/-- the bundle of a frame, once for all its calls -/
theorem with_cx {β : Type} {t : Sem β} {Q : β → Shared → Prop} (C : Cx w mean mg mb dp un cs A₀ base outer h₀ n) (h : Cx w mean mg mb dp un cs A₀ base outer h₀ n → wpAny (model PG w) (ktrTop dp un gd cn cs L a ccd cl outer) t Q E s) :
    wpAny (model PG w) (ktrTop dp un gd cn cs L a ccd cl outer) t Q E s := h C
end
theorem rot1 {h₀ h : Heap} {L : Addr} {a b : Addr × Obj} {r : List (Addr × Obj)} (N : News h₀ L h (a :: b :: r)) : News h₀ L h (b :: a :: r) := fun p hp => N p (by simp only [List.mem_cons] at hp ⊢; rcases hp with h | h | h <;> simp [h])
theorem rot2 {h₀ h : Heap} {L : Addr} {a b c : Addr × Obj} {r : List (Addr × Obj)} (N : News h₀ L h (a :: b :: c :: r)) : News h₀ L h (c :: a :: b :: r) := fun p hp => N p (by simp only [List.mem_cons] at hp ⊢; rcases hp with h | h | h | h <;> simp [h])
theorem rot3 {h₀ h : Heap} {L : Addr} {a b c d : Addr × Obj} {r : List (Addr × Obj)} (N : News h₀ L h (a :: b :: c :: d :: r)) : News h₀ L h (d :: a :: b :: c :: r) := fun p hp => N p (by simp only [List.mem_cons] at hp ⊢; rcases hp with h | h | h | h | h <;> simp [h])
end

open PySem.Spec PySem.Calls
local macro_rules | `(tactic| k_mem) => `(tactic| first | with_reducible assumption | (refine' mem_tl ?_; k_mem))
local macro_rules | `(tactic| k_all) => `(tactic| with_reducible assumption)
local macro_rules | `(tactic| k_handed) => `(tactic| with_reducible assumption)
local macro_rules | `(tactic| k_room) => `(tactic| k_extra "k_room!")
local macro_rules | `(tactic| ktr_room) => `(tactic| k_extra "ktr_room!")
local macro_rules | `(tactic| ktr_units) => `(tactic| k_extra "ktr_units!")
local macro_rules | `(tactic| ktr_rel) => `(tactic| k_extra "ktr_rel!")
local macro_rules | `(tactic| tb_start) => `(tactic| exact ⟨by k_asm, by k_asm, by k_asm, rfl, by ktr_room, by ktr_units⟩)
local macro_rules | `(tactic| tb_rel) => `(tactic| k_extra "tb_rel!")
local macro_rules | `(tactic| size_fits) => `(tactic| k_extra "size_fits!")
section
theorem start_Rp : True := by
  w_top off
  k_with_none
  (k_with "k_room!" => (((try simp only [depth_under_make, depth_under_kw, depth_in1, depth_deeper, depth_caller]); (try dsimp only [ktrTop]); omega)))
  (k_with "ktr_room!" => (((try simp only [depth_under_make, depth_under_kw, depth_in1, depth_deeper, depth_caller]); (try dsimp only [ktrTop]); omega)))
  (k_with "ktr_units!" => (((try simp only [units_in1, units_deeper, Around.mark_units, units_caller]); (try dsimp only [ktrTop]); omega)))
  (k_with "ktr_rel!" => (first | k_asm | exact rot1 (by k_asm) | exact rot2 (by k_asm) | exact rot3 (by k_asm)))
  (k_with "tb_rel!" => (first | k_asm | exact fun _ h => h | (intro p hp; k_mem)))
  (k_with "size_fits!" => (((try simp only [List.size_toArray, List.length_append, List.length_cons, List.length_nil, PySem.sizeLine_eq]); omega)))
  (k_with "call ref!" => (k_here; (try dsimp only [List.nil_append, List.cons_append]); (with_reducible show wpAny _ _ (call (Value.ref 179) _ _) _ _ _); k_dflt (refine' kind_c ?zzC ?zzF ?zzN ?zzhf ?zzR ?zzhv ?_; (case zzF => k_asm); (case zzN => ktr_rel); (case zzC => tb_start); (case zzR => k_asm); (case zzhf => tb_rel); (case zzhv => assumption); k_whole; intro _ _ _ _ _; (try k_sweep))))
  (k_with "call ref!" => (k_here; (try dsimp only [List.nil_append, List.cons_append]); (with_reducible show wpAny _ _ (call (Value.ref 186) _ _) _ _ _); k_dflt (refine' take_c ?zzC ?zzF ?zzN ?zzhne ?zzhf ?zzR ?zzhv ?_; (case zzF => k_asm); (case zzN => ktr_rel); (case zzC => tb_start); (case zzR => k_asm); (case zzhf => tb_rel); (case zzhv => assumption); (case zzhne => k_all); k_whole; intro _ _ _ _ _; (try k_sweep))))
  trivial
open PySem PySem.W PyProof.Rows PySem.Spec PySem.Calls
set_option maxRecDepth 100000
set_option maxHeartbeats 8000000
theorem ltOf {d : Addr} : ∀ {l : List (Addr × Obj)}, AllLt d l → ∀ p ∈ l, p.1 < d
  | [], _, _, hp => nomatch hp
  | q :: r, h, p, hp => by
    rcases List.mem_cons.mp hp with rfl | hp
    · exact h.1
    · exact ltOf h.2 p hp
/-- the frozen part has grown by what was made above all that stood -/
structure Grow (dx : Addr) (mu fz fz' : List (Addr × Obj)) : Prop where
  sub : ∀ p ∈ fz, p ∈ fz'
  new : ∀ q ∈ fz', q ∈ fz ∨ (dx < q.1 ∧ (∀ p ∈ mu, p.1 < q.1) ∧ ∀ p ∈ fz, p.1 < q.1)
theorem Grow.refl {dx : Addr} {mu fz : List (Addr × Obj)} : Grow dx mu fz fz := ⟨fun _ h => h, fun _ h => .inl h⟩
theorem Grow.trans {dx : Addr} {mu a b c : List (Addr × Obj)} (x : Grow dx mu a b) (y : Grow dx mu b c) : Grow dx mu a c :=
  ⟨fun p h => y.sub p (x.sub p h), fun q h => by
    rcases y.new q h with h | ⟨h1, h2, h3⟩
    · exact x.new q h
    · exact .inr ⟨h1, h2, fun p hp => h3 p (x.sub p hp)⟩⟩
theorem Grow.less {dx : Addr} {mu nu a b : List (Addr × Obj)} (x : Grow dx mu a b) (h : ∀ p ∈ nu, p ∈ mu) : Grow dx nu a b :=
  ⟨x.sub, fun q hq => (x.new q hq).imp id fun y => ⟨y.1, fun p hp => y.2.1 p (h p hp), y.2.2⟩⟩
theorem Grow.one {dx q : Addr} {mu fz : List (Addr × Obj)} {o : Obj} (h0 : dx < q) (h1 : ∀ p ∈ mu, p.1 < q) (h2 : ∀ p ∈ fz, p.1 < q) : Grow dx mu fz ((q, o) :: fz) :=
  ⟨fun _ h => mem_tl h, fun x hx => by
    rcases List.mem_cons.mp hx with rfl | hx
    · exact .inr ⟨h0, h1, h2⟩
    · exact .inl hx⟩
theorem Grow.neD {dx : Addr} {mu fz fz' : List (Addr × Obj)} (G : Grow dx mu fz fz') (h : ∀ p ∈ fz, p.1 ≠ dx) : ∀ p ∈ fz', p.1 ≠ dx := fun p hp => by
  rcases G.new p hp with q | q
  · exact h p q
  · exact Nat.ne_of_gt q.1
theorem Grow.neM {dx b : Addr} {o : Obj} {mu fz fz' : List (Addr × Obj)} (G : Grow dx mu fz fz') (hb : (b, o) ∈ mu) (h : ∀ p ∈ fz, p.1 ≠ b) : ∀ p ∈ fz', p.1 ≠ b := fun p hp => by
  rcases G.new p hp with q | q
  · exact h p q
  · exact Nat.ne_of_gt (q.2.1 _ hb)
noncomputable def partDat (kd : Str) (d : Dat) : Dat :=
  if kd = Str.ofString "EMPTY" then .tuple [.str (Str.ofString "empty"), .str (Str.ofString "")]
  else if kd = Str.ofString "ACTION" then .tuple [.str (Str.ofString "act"), d] else .tuple [.str (Str.ofString "sym"), d]
theorem andAll {a q : Addr} {mu fz : List (Addr × Obj)} (h : a < q ∧ AllLt q (mu ++ fz)) : a < q ∧ (∀ p ∈ mu, p.1 < q) ∧ ∀ p ∈ fz, p.1 < q :=
  ⟨h.1, fun p hp => ltOf h.2 p (List.mem_append_left _ hp), fun p hp => ltOf h.2 p (List.mem_append_right _ hp)⟩
theorem andAllE {a q : Addr} {mu fz : List (Addr × Obj)} (h : a < q ∧ AllLt q (mu ++ fz)) : ∃ pl, pl = q ∧ a < pl ∧ (∀ p ∈ mu, p.1 < pl) ∧ ∀ p ∈ fz, p.1 < pl :=
  ⟨q, rfl, andAll h⟩
theorem news_one {h₀ h : Heap} {L : Addr} {a b : Addr × Obj} {mu fz : List (Addr × Obj)} (N : News h₀ L h (a :: b :: (mu ++ fz))) : News h₀ L h (b :: (mu ++ (a :: fz))) := fun p hp => N p (by
  simp only [List.mem_cons, List.mem_append] at hp ⊢; rcases hp with h | h | h | h <;> simp [h])
section
variable {w : World} {mean : ExcName → Option Value} {mg mb : Str → Option Value} {dp un : Nat} {gd : Option (List Code)} {cn : Str} {cs : Scope} {a : Addr} {ccd : Value} {cl : List (Str × Addr)} {outer : List Env} {A₀ : Around} {base h₀ : Heap} {L : Addr} {m : Str → Option Value} {s : Shared} {Q E : Value → Shared → Prop}
  {fz mu r : List (Addr × Obj)} {x dx tl : Addr} {ha hb : Int} {ta tb : Tok} {toks : List Tk} {k : Nat} {tk : Tok} {kd : Str} {wv : Value} {d : Dat}
theorem part_c (C : Cx w mean mg mb dp un cs A₀ base outer h₀ 6) (F : Fr h₀ L s.heap m) (N : News h₀ L s.heap ((dx, rdObj ha hb ta tb tl k tk) :: (mu ++ fz))) (hm : ∀ p ∈ mu, p.1 ≠ dx) (hne : ∀ p ∈ fz, p.1 ≠ dx) (R : RdF fz x dx tl toks) (hv : toks[k]? = some (kd, wv, d))
  (hkd : kd = Str.ofString "NAME" ∨ kd = Str.ofString "LITERAL" ∨ kd = Str.ofString "ACTION" ∨ kd = Str.ofString "EMPTY")
  (ret : ∀ h' tk' t' v fz', Fr h₀ L h' m → News h₀ L h' ((dx, rdObj ha hb ta tb tl (k + 1) t') :: (mu ++ fz')) → Grow dx mu fz fz' → DatIn fz' v (partDat kd d) → Q v { s with heap := h', toks := tk' }) :
  wpAny (model PG w) (ktrTop dp un gd cn cs L a ccd cl outer) (call (.ref 228) [.ref x]) Q E s := by
  obtain ⟨B, X, T, hk, hd, hu⟩ := C
  have hMk := kstMark
  have hw : handedIn wv = true := (R.dat _ (List.mem_of_getElem? hv)).1.handed
  have hx := R.hx
  have hd0 : DatIn fz wv d := (R.dat _ (List.mem_of_getElem? hv)).1
  rcases hkd with hkd | hkd | hkd | hkd
  · subst hkd
    refine wpAny_call ?_
    k_dflt ktr_enter
    k_steps
    obtain ⟨l1, l2, l3⟩ := andAll (by assumption)
    exact ret _ _ _ _ _ (by assumption) (news_one (by assumption)) (Grow.one l1 l2 l3) (by rw [partDat, if_neg (by decide), if_neg (by decide)]; exact DatIn.tuple (.head _) (.cons (.str _ _) (.cons (hd0.mono fun _ h => mem_tl h) .nil)))
  · subst hkd
    refine wpAny_call ?_
    k_dflt ktr_enter
    k_steps
    obtain ⟨l1, l2, l3⟩ := andAll (by assumption)
    exact ret _ _ _ _ _ (by assumption) (news_one (by assumption)) (Grow.one l1 l2 l3) (by rw [partDat, if_neg (by decide), if_neg (by decide)]; exact DatIn.tuple (.head _) (.cons (.str _ _) (.cons (hd0.mono fun _ h => mem_tl h) .nil)))
  · subst hkd
    refine wpAny_call ?_
    k_dflt ktr_enter
    k_steps
    obtain ⟨l1, l2, l3⟩ := andAll (by assumption)
    exact ret _ _ _ _ _ (by assumption) (news_one (by assumption)) (Grow.one l1 l2 l3) (by rw [partDat, if_neg (by decide), if_pos rfl]; exact DatIn.tuple (.head _) (.cons (.str _ _) (.cons (hd0.mono fun _ h => mem_tl h) .nil)))
  · subst hkd
    refine wpAny_call ?_
    k_dflt ktr_enter
    k_steps
    obtain ⟨l1, l2, l3⟩ := andAll (by assumption)
    exact ret _ _ _ _ _ (by assumption) (news_one (by assumption)) (Grow.one l1 l2 l3) (by rw [partDat, if_pos rfl]; exact DatIn.tuple (.head _) (.cons (.str _ _) (.cons (.str _ _) .nil)))
end
end

section
theorem start_Sp : True := by
  w_top off
  k_with_none
  (k_with "k_room!" => (((try simp only [depth_under_make, depth_under_kw, depth_in1, depth_deeper, depth_caller]); (try dsimp only [ktrTop]); omega)))
  (k_with "ktr_room!" => (((try simp only [depth_under_make, depth_under_kw, depth_in1, depth_deeper, depth_caller]); (try dsimp only [ktrTop]); omega)))
  (k_with "ktr_units!" => (((try simp only [units_in1, units_deeper, Around.mark_units, units_caller]); (try dsimp only [ktrTop]); omega)))
  (k_with "ktr_rel!" => (first | k_asm | exact rot1 (by k_asm) | exact rot2 (by k_asm) | exact rot3 (by k_asm)))
  (k_with "tb_rel!" => (first | k_asm | exact fun _ h => h | (intro p hp; k_mem)))
  (k_with "size_fits!" => (((try simp only [List.size_toArray, List.length_append, List.length_cons, List.length_nil, PySem.sizeLine_eq]); omega)))
  trivial
open PySem PySem.W PyProof.Rows PySem.Spec PySem.Calls
set_option maxRecDepth 100000
noncomputable abbrev S (s : String) : Str := Str.ofString s
noncomputable def isPart (k : Str) : Bool := decide (k = S "NAME") || (decide (k = S "LITERAL") || (decide (k = S "ACTION") || (decide (k = S "EMPTY"))))
noncomputable def isSym (k : Str) : Bool := decide (k = S "NAME") || (decide (k = S "LITERAL") || (decide (k = S "NUMBER")))
noncomputable def isNL (k : Str) : Bool := decide (k = S "NAME") || decide (k = S "LITERAL")
/-- what a reading gives: an answer and the next place, or the place of the refusal -/
inductive Res (α : Type) where
  | ok (a : α) (k : Nat)
  | err (k : Nat)
noncomputable def altTail (k : Nat) (acc : List Dat) : List Tk → Res Dat
  | [] => .err k
  | t :: r => if t.1 = S "PREC" then (match r with
      | [] => .err k
      | u :: r2 => if isNL u.1 = true then (match r2 with
          | [] => .err k
          | v :: _ => if v.1 = S "ACTION" then .ok (.tuple [.list (acc ++ [partDat v.1 v.2.2]), u.2.2]) (k + 3) else .ok (.tuple [.list acc, u.2.2]) (k + 2))
        else .err (k + 1))
    else .ok (.tuple [.list acc, .str (S "")]) k
noncomputable def altS (k : Nat) (acc : List Dat) : List Tk → Res Dat
  | [] => .err k
  | t :: r => if isPart t.1 = true then altS (k + 1) (acc ++ [partDat t.1 t.2.2]) r else altTail k acc (t :: r)
noncomputable def Live (r : List Tk) : Prop := ∃ r0 t, r = r0 ++ [t] ∧ t.1 = S "$end"
theorem Live.ne {r : List Tk} (h : Live r) : r ≠ [] := by obtain ⟨r0, t, rfl, _⟩ := h; simp
theorem Live.tail {t : Tk} {r : List Tk} (h : Live (t :: r)) (hk : t.1 ≠ S "$end") : Live r := by
  obtain ⟨r0, u, e, hu⟩ := h
  cases r0 with
  | nil => cases e; exact absurd hu hk
  | cons v r0 => cases e; exact ⟨r0, u, rfl, hu⟩
theorem drop_get {toks r : List Tk} {t : Tk} {k : Nat} (h : toks.drop k = t :: r) : toks[k]? = some t := by
  have := List.getElem?_drop (xs := toks) (i := k) (j := 0)
  rw [h] at this
  simpa using this.symm
theorem drop_next {toks r : List Tk} {t : Tk} {k : Nat} (h : toks.drop k = t :: r) : toks.drop (k + 1) = r := by
  have : toks.drop (k + 1) = (toks.drop k).drop 1 := by rw [List.drop_drop]
  rw [this, h]; rfl
section
variable {prog : Program} {w : World} {A : Around} {E : Value → Shared → Prop} {Q : Flow → Shared → Prop} {s : Shared} {env : Env} {h₀ : Heap} {L : Addr} {m : Str → Option Value}
noncomputable def WStep (h₀ : Heap) (L : Addr) (s : Shared) (m : Str → Option Value) (J : Nat → List (Addr × Obj) → Prop) (Q : Flow → Shared → Prop) (n : Nat) (f : Flow) (s₃ : Shared) : Prop :=
  match f with
  | .next | .cont => ∃ h' tk news₂ n', s₃ = { s with heap := h', toks := tk } ∧ Fr h₀ L h' m ∧ News h₀ L h' news₂ ∧ n' < n ∧ J n' news₂
  | .brk => Q .next s₃
  | .ret v => Q (.ret v) s₃
theorem WStep.next {J : Nat → List (Addr × Obj) → Prop} {n : Nat} (h' : Heap) (tk : Nat) (news₂ : List (Addr × Obj)) (n' : Nat) (F : Fr h₀ L h' m) (N : News h₀ L h' news₂) (hn : n' < n) (hJ : J n' news₂) : WStep h₀ L s m J Q n .next { s with heap := h', toks := tk } :=
  ⟨h', tk, news₂, n', rfl, F, N, hn, hJ⟩
theorem while_const {test : PySem.Expr} {body : List Stmt} {pos : Pos} {news : List (Addr × Obj)} (J : Nat → List (Addr × Obj) → Prop) (n₀ : Nat)
    (F : Fr h₀ L s.heap m) (N : News h₀ L s.heap news) (hJ : J n₀ news)
    (turn : ∀ n news₁ h₁ tk₁, Fr h₀ L h₁ m → News h₀ L h₁ news₁ → J n news₁ →
      wpAny (model prog w) A (isTrue test env (eval test env)) (fun b s₂ =>
        if b = true then wpAny (model prog w) A (execs body env) (WStep h₀ L s m J Q n) E s₂ else Q .next s₂) E { s with heap := h₁, toks := tk₁ })
    (hE : PassesOwn (model prog w) A env E := by passes_own) :
    wpAny (model prog w) A (exec (.While test body [] pos) env) Q E s := by
  refine While_inv2 (fun n m₁ nw => m₁ = m ∧ J n nw) F N ⟨rfl, hJ⟩ ?_ hE
  rintro n m₁ news₁ h₁ tk₁ F₁ N₁ ⟨rfl, J₁⟩
  refine wpAny_mono (turn n news₁ h₁ tk₁ F₁ N₁ J₁) (fun b s₂ p => ?_) fun _ _ x => x
  cases b with
  | false => simpa using p
  | true =>
    simp only [if_true] at p ⊢
    refine wpAny_mono p (fun f s₃ q => ?_) fun _ _ x => x
    cases f with
    | ret v => exact q
    | brk => exact q
    | next =>
      obtain ⟨h', tk', news', n', rfl, F', N', hn, hj⟩ := q
      exact ⟨h', tk', _, news', n', rfl, F', N', hn, rfl, hj⟩
    | cont =>
      obtain ⟨h', tk', news', n', rfl, F', N', hn, hj⟩ := q
      exact ⟨h', tk', _, news', n', rfl, F', N', hn, rfl, hj⟩
end
section
variable {w : World} {A : Around} {h₀ : Heap} {L : Addr} {m : Str → Option Value} {s : Shared} {Q E : Value → Shared → Prop} {mean : ExcName → Option Value} {mg mb : Str → Option Value}
theorem in_part {kd : Str} {tk : Tok} {b : Bool} (F : Fr h₀ L s.heap m) (X : (Mine.K0 w.params).In h₀) (T : Top Mine.Vw LS mean mg mb h₀) (N : News h₀ L s.heap []) (hb : isPart kd = b)
    (ret : Q (.bool b) { s with toks := s.toks + 1 }) : wpAny (model PG w) A (compareOp .In (.str kd tk) (.ref 127)) Q E s := by
  subst hb
  k_steps
  unfold isPart at ret
  rw [show S "NAME" = (⟨#[78, 65, 77, 69]⟩ : Str) from by decide, show S "LITERAL" = (⟨#[76, 73, 84, 69, 82, 65, 76]⟩ : Str) from by decide, show S "ACTION" = (⟨#[65, 67, 84, 73, 79, 78]⟩ : Str) from by decide, show S "EMPTY" = (⟨#[69, 77, 80, 84, 89]⟩ : Str) from by decide] at ret
  simpa using ret
theorem tup_at {K : Frag} {h : Heap} {a : Addr} {o : Obj} {items : Array Value} {n : Nat} (X : K.In h) (q : K.lookup a = some o) (h1 : o.cls = .type "tuple") (h2 : o.data = .seq items n) : IsTup h a items := ⟨o, X _ _ q, h1, n, h2⟩
theorem in_sym {kd : Str} {tk : Tok} {b : Bool} (F : Fr h₀ L s.heap m) (X : (Mine.K0 w.params).In h₀) (hu : A.units + 100 < cLine) (hb : isSym kd = b)
    (ret : ∀ tk', Q (.bool b) { s with toks := tk' }) : wpAny (model PG w) A (compareOp .In (.str kd tk) (.ref 126)) Q E s := by
  subst hb
  have ht : IsTup s.heap 126 #[.str (S "NAME") 341, .str (S "LITERAL") 342, .str (S "NUMBER") 343] := by
    refine' tup_at (X.keeps F.keep) ?a ?b ?c
    case a => k_is
    case b => rfl
    case c => rfl
  refine in_tuple_strs ht (ys := [S "NAME", S "LITERAL", S "NUMBER"]) ?_ ?_
  · exact .cons _ _ (.cons _ _ (.cons _ _ .nil))
  · have e : ([S "NAME", S "LITERAL", S "NUMBER"].any (· == kd)) = isSym kd := by
      unfold isSym
      simp only [List.any_cons, List.any_nil, Bool.or_false]
      have c : ∀ t : Str, (t == kd) = decide (kd = t) := fun t => by
        by_cases h : kd = t
        · subst h; simp
        · rw [decide_eq_false h]; exact beq_eq_false_iff_ne.mpr fun q => h q.symm
      rw [c, c, c]
    rw [e]
    exact ret s.toks
theorem eq_strB {a b : Str} {ta tb : Tok} {r : Bool} (h : (a == b) = r) (q : Q (.bool r) s) : wpAny (model PG w) A (compareOp .Eq (.str a ta) (.str b tb)) Q E s := by
  subst h
  exact PyProof.Rows.eq_str q
theorem eq_intF {a b : Int} {ta tb : Tok} (h : a ≠ b) (q : Q (.bool false) s) : wpAny (model PG w) A (compareOp .Eq (.int a ta) (.int b tb)) Q E s := by
  refine PyProof.Rows.eq_int ?_
  rw [show (a == b) = false from beq_eq_false_iff_ne.mpr h]
  exact q
theorem ne_strB {a b : Str} {ta tb : Tok} {r : Bool} (h : (a == b) = r) (q : Q (.bool (!r)) s) : wpAny (model PG w) A (compareOp .NotEq (.str a ta) (.str b tb)) Q E s := by
  subst h
  exact PyProof.Rows.ne_str q
end
end

section
theorem start_Rf : True := by
  w_top off
  k_with_none
  (k_with "k_room!" => (((try simp only [depth_under_make, depth_under_kw, depth_in1, depth_deeper, depth_caller]); (try dsimp only [ktrTop]); omega)))
  (k_with "ktr_room!" => (((try simp only [depth_under_make, depth_under_kw, depth_in1, depth_deeper, depth_caller]); (try dsimp only [ktrTop]); omega)))
  (k_with "ktr_units!" => (((try simp only [units_in1, units_deeper, Around.mark_units, units_caller]); (try dsimp only [ktrTop]); omega)))
  (k_with "ktr_rel!" => (first | k_asm | exact rot1 (by k_asm) | exact rot2 (by k_asm) | exact rot3 (by k_asm)))
  (k_with "tb_rel!" => (first | k_asm | exact fun _ h => h | (intro p hp; k_mem)))
  (k_with "size_fits!" => (((try simp only [List.size_toArray, List.length_append, List.length_cons, List.length_nil, PySem.sizeLine_eq]); omega)))
  (k_with "call ref!" => (k_here; (try dsimp only [List.nil_append, List.cons_append]); (with_reducible show wpAny _ _ (call (Value.ref 179) _ _) _ _ _); k_dflt (refine' kind_c ?zzC ?zzF ?zzN ?zzhf ?zzR ?zzhv ?_; (case zzF => k_asm); (case zzN => ktr_rel); (case zzC => tb_start); (case zzR => k_asm); (case zzhf => tb_rel); (case zzhv => assumption); k_whole; intro _ _ _ _ _; (try k_sweep))))
  (k_with "call ref!" => (k_here; (try dsimp only [List.nil_append, List.cons_append]); (with_reducible show wpAny _ _ (call (Value.ref 186) _ _) _ _ _); k_dflt (refine' take_c ?zzC ?zzF ?zzN ?zzhne ?zzhf ?zzR ?zzhv ?_; (case zzF => k_asm); (case zzN => ktr_rel); (case zzC => tb_start); (case zzR => k_asm); (case zzhf => tb_rel); (case zzhv => assumption); (case zzhne => k_all); k_whole; intro _ _ _ _ _; (try k_sweep))))
  (k_with "subscriptTail!" => (k_here; (with_reducible show wpAny _ _ (subscriptTail _ _ (Value.ref _) (Value.int (Nat.cast _) _)) _ _ _); k_dflt (refine' item_nat ?zzk1 ?zzk2 ?zzk3 ?zzk4 ?_ ?zzk6; (case zzk1 => k_asm); (case zzk2 => k_mem); (case zzk3 => assumption); (case zzk4 => assumption); (case zzk6 => with_unfolding_all rfl); k_whole)))
  (k_with "exec Raise some none!" => (k_here; refine Raise_ownX rfl ?_))
  (k_with "call ref!" => (k_here; (try dsimp only [List.nil_append, List.cons_append]); (with_reducible show wpAny _ _ (call (Value.ref 87) _ _) _ _ _); k_dflt (refine' exc_call ?zzk1 ?zzk2 ?zzk3 ?zzk4 ?zzk5 ?zzk6 ?_ ?zzk7; (case zzk1 => k_asm); (case zzk2 => k_asm); (case zzk3 => k_asm); (case zzk4 => exact errCls_of (by k_in)); (case zzk5 => k_is); (case zzk6 => k_is); (case zzk7 => simp only [List.length_cons, List.length_nil]; decide); k_whole; intro zzxq zztq zzhq zzFq zzNq zzl1 zzl2 zzl3; (try k_lt zzl1); (try k_lt2 zzl2); (try k_lt zzl3); (revert zzxq zztq zzhq zzFq zzNq zzl1 zzl2 zzl3; intro _ _ _ _ _ _ _ _); (try k_sweep); k_enter)))
  (k_with "getMethod type:Exception!" => (k_here; k_dflt (refine' method_type ?zzF ?zzX ?zzm (by decide +kernel) ?zze ?zzh ?_; (case zzF => k_asm); (case zzX => k_asm); (case zzm => first | rfl | kernel_rfl); (case zze => k_is); (case zzh => rfl))))
  (k_with "call builtin:Exception.__init__!" => (k_here; k_dflt (refine' exc_init ?zzF ?zzN ?zza ?zzb ?_ ?zzc; (case zzF => k_asm); (case zzN => k_asm); (case zza => k_all); (case zzb => exact errCls_of (by k_in)); (case zzc => simp only [List.length_cons, List.length_nil]; decide); k_whole; intro zzt2q zzhq zzFq zzNq zzl1 zzl2; (try k_lt zzl2); (try k_lt2 zzl1); (revert zzt2q zzhq zzFq zzNq zzl1 zzl2; intro _ _ _ _ _ _); (try k_sweep))))
  (k_with "setAttr ref!" => (k_here; k_dflt (first
  | (refine' exc_set0 ?zzF ?zzN ?zza ?zzX ?zzhc ?zzhm ?zzhd ?zzhs ?zzht ?_; (case zzF => k_asm); (case zzN => k_asm); (case zza => k_all); (case zzX => k_asm); (case zzhc => k_is); (case zzhm => rfl); (case zzhd => rfl); (case zzhs => k_is); (case zzht => k_is); k_whole; intro zzdq zzhq zzqq zzFq zzNq zzl1 zzl2; (try k_lt zzl2); (try k_lt2 zzl1); (revert zzdq zzhq zzqq zzFq zzNq zzl1 zzl2; intro _ _ _ _ _ _ _); (try k_sweep))
  | (refine' exc_set1 ?zzF ?zzN ?zza ?zzb ?zzX ?zzhc ?zzhm ?zzhd ?zzhs ?zzht ?zzhl ?zzhp ?zzhz ?_; (case zzF => k_asm); (case zzN => k_asm); (case zza => k_ne); (case zzb => k_all); (case zzX => k_asm); (case zzhc => k_is); (case zzhm => rfl); (case zzhd => rfl); (case zzhs => k_is); (case zzht => k_is); (case zzhl => k_get); (case zzhp => k_put); (case zzhz => exact Nat.le_of_ble_eq_true rfl); k_whole; intro _ _ _; (try k_sweep)))))
  trivial
open PySem PySem.W PyProof.Rows PySem.Spec PySem.Calls
set_option maxRecDepth 100000
set_option maxHeartbeats 8000000
section
variable {prog : Program} {w : World} {A A₀ : Around} {E : Value → Shared → Prop} {s : Shared} {K : Frag} {h₀ : Heap} {L : Addr} {m : Str → Option Value} {news : List (Addr × Obj)} {Q : Value → Shared → Prop} {pos : List Value} {fI : Addr}
theorem exc_call (F : Fr h₀ L s.heap m) (X₀ : K.In h₀) (N : News h₀ L s.heap news) (hC : ErrCls s.heap) (hi : findIn K (.ref 87) "__init__" = some (some (.ref fI))) (hf : isFn K (.ref fI) = true)
    (h : ∀ x t h', Fr h₀ L h' m → News h₀ L h' ((x, excObj t) :: (t, tupObj pos) :: news) → (∀ p ∈ news, p.1 < t) → t < x → (∀ p ∈ news, p.1 < x) →
      codeAny (model prog w) (A.under (.builtin "type.__call__" ⟨.ref 87 :: pos, []⟩)) (.call (.ref fI) ⟨.ref x :: pos, []⟩) (InitBack x fun r s' => match r with | .ok (.ret v) => Q v s' | .ok _ => False | .error e => E e s') { s with heap := h' })
    (hrest : pos.length ≤ sizeLine) :
    wpAny (model prog w) A (call (.ref 87) pos []) Q E s := by
  obtain ⟨nm, q, N', bs, hdct, sn, sub, ab, col, dd, k0, k1, k2, k3, k5, hC⟩ := hC
  exact wpAny_call (exc_make F N (X₀.keeps F.keep) hC hi (beq_iff_eq.mp hf) (fun x t h' a b c d => h x t h' a b c d fun p hp => Nat.lt_trans (c p hp) d) hrest)
end
section
variable {w : World} {mean : ExcName → Option Value} {mg mb : Str → Option Value} {dp un : Nat} {gd : Option (List Code)} {cn : Str} {cs : Scope} {a : Addr} {ccd : Value} {cl : List (Str × Addr)} {outer : List Env} {A₀ : Around} {base h₀ : Heap} {L : Addr} {m : Str → Option Value} {s : Shared} {Q E : Value → Shared → Prop}
  {fz r : List (Addr × Obj)} {x dx tl : Addr} {ha hb : Int} {ta tb : Tok} {toks : List Tk} {k : Nat} {tk : Tok} {kd : Str} {wv : Value} {d : Dat}
theorem refuse_c (C : Cx w mean mg mb dp un cs A₀ base outer h₀ 6) (F : Fr h₀ L s.heap m) (N : News h₀ L s.heap ((dx, rdObj ha hb ta tb tl k tk) :: r)) (hf : ∀ p ∈ fz, p ∈ r) (R : RdF fz x dx tl toks) (hv : toks[k]? = some (kd, wv, d))
  (exc : ∀ e d g₂ h' tk' news', RaisedX base (envX cn cs L a ccd cl :: outer) e d news' h' → ErrAt news' d (7 * (k : Int)) → (∀ p ∈ r, p ∈ news') → Fr h₀ L g₂ m → g₂.UpToSlots h' → E (.ref e) { s with heap := h', toks := tk' }) :
  wpAny (model PG w) (ktrTop dp un gd cn cs L a ccd cl outer) (call (.ref 193) [.ref x]) Q E s := by
  obtain ⟨B, X, T, hk, hd, hu⟩ := C
  obtain ⟨hx, hlen, ⟨vs, n, htl, htk⟩, hdat⟩ := R.mono hf
  obtain ⟨v, hv', ht⟩ := htk k _ hv
  obtain ⟨xt, dxt, px, dpx, h1, h2, h3, h4, g1, g2, g3, t1, t2, t3, t4, t5, u1, u2, u3, u4, n2, n3, vtx, vl, vc, e, ma, mb, mc, md⟩ := ht
  subst e
  have hk2 : k < 1000 := by have := (List.getElem?_eq_some_iff.mp hv).1; omega
  have hkd : kd.length < 100 := (hdat _ (List.mem_of_getElem? hv)).2
  clear htk hdat hv hf R
  have hMk := kstMark
  refine wpAny_call ?_
  k_dflt ktr_enter
  k_steps
  refine raise_end (by assumption) (by assumption) (by assumption) (by assumption) (by k_ne) (by k_all) ?_
  intro h' R U
  exact exc _ _ _ _ _ _ R (errAt_mk (.head _) (by k_mem) (by k_mem)) (by intro p hp; k_mem) (by assumption) U
end
end

section
theorem start_Kt : True := by
  w_top off
  k_with_none
  (k_with "k_room!" => (((try simp only [depth_under_make, depth_under_kw, depth_in1, depth_deeper, depth_caller]); (try dsimp only [ktrTop]); omega)))
  (k_with "ktr_room!" => (((try simp only [depth_under_make, depth_under_kw, depth_in1, depth_deeper, depth_caller]); (try dsimp only [ktrTop]); omega)))
  (k_with "ktr_units!" => (((try simp only [units_in1, units_deeper, Around.mark_units, units_caller]); (try dsimp only [ktrTop]); omega)))
  (k_with "ktr_rel!" => (first | k_asm | exact rot1 (by k_asm) | exact rot2 (by k_asm) | exact rot3 (by k_asm)))
  (k_with "tb_rel!" => (first | k_asm | exact fun _ h => h | (intro p hp; k_mem)))
  (k_with "size_fits!" => (((try simp only [List.size_toArray, List.length_append, List.length_cons, List.length_nil, PySem.sizeLine_eq]); omega)))
  (k_with "call ref!" => (k_here; (try dsimp only [List.nil_append, List.cons_append]); (with_reducible show wpAny _ _ (call (Value.ref 179) _ _) _ _ _); k_dflt (refine' kind_c ?zzC ?zzF ?zzN ?zzhf ?zzR ?zzhv ?_; (case zzF => k_asm); (case zzN => ktr_rel); (case zzC => tb_start); (case zzR => k_asm); (case zzhf => tb_rel); (case zzhv => assumption); k_whole; intro _ _ _ _ _; (try k_sweep))))
  (k_with "call ref!" => (k_here; (try dsimp only [List.nil_append, List.cons_append]); (with_reducible show wpAny _ _ (call (Value.ref 186) _ _) _ _ _); k_dflt (refine' take_c ?zzC ?zzF ?zzN ?zzhne ?zzhf ?zzR ?zzhv ?_; (case zzF => k_asm); (case zzN => ktr_rel); (case zzC => tb_start); (case zzR => k_asm); (case zzhf => tb_rel); (case zzhv => assumption); (case zzhne => k_all); k_whole; intro _ _ _ _ _; (try k_sweep))))
  (k_with "call ref!" => (k_here; (try dsimp only [List.nil_append, List.cons_append]); (with_reducible show wpAny _ _ (call (Value.ref 193) _ _) _ _ _); k_dflt (refine' refuse_c ?zzC ?zzF ?zzN ?zzhf ?zzR ?zzhv ?_; (case zzF => k_asm); (case zzN => ktr_rel); (case zzC => tb_start); (case zzR => k_asm); (case zzhf => tb_rel); (case zzhv => assumption); k_whole; intro _ _ _ _ _ _ _ _ _ _ _)))
  (k_with "compareOp In str ref!" => (k_here; (with_reducible show wpAny _ _ (compareOp CmpOp.In (Value.str _ _) (Value.ref 127)) _ _ _); k_dflt (refine' in_part ?zzF ?zzX ?zzT ?zzN ?zzb ?_; (case zzF => k_asm); (case zzX => k_asm); (case zzT => k_asm); (case zzN => exact News.nil); (case zzb => assumption); k_whole)))
  (k_with "compareOp In str ref!" => (k_here; (with_reducible show wpAny _ _ (compareOp CmpOp.In (Value.str _ _) (Value.ref 126)) _ _ _); k_dflt (refine' in_sym ?zzF ?zzX ?zzu ?zzb ?_; (case zzF => k_asm); (case zzX => k_asm); (case zzu => ktr_units); (case zzb => assumption); k_whole; intro _)))
  (k_with "compareOp Eq str str!" => (k_here; (with_reducible show wpAny _ _ (compareOp CmpOp.Eq (Value.str _ _) (Value.str _ _)) _ _ _); k_dflt (refine' eq_strB ?zzb ?_; (case zzb => with_reducible assumption); k_whole)))
  (k_with "compareOp NotEq str str!" => (k_here; (with_reducible show wpAny _ _ (compareOp CmpOp.NotEq (Value.str _ _) (Value.str _ _)) _ _ _); k_dflt (refine' ne_strB ?zzb ?_; (case zzb => with_reducible assumption); k_whole)))
  (k_with "eval Name!" => (k_here; k_dflt (refine' ld ?zzzF ?zzzv ?_ ?zzza ?zzzb; (case zzzF => k_asm); (case zzza => assumption); (case zzzb => assumption); (case zzzv => assumption); k_whole)))
  trivial
open PySem PySem.W PyProof.Rows PySem.Spec PySem.Calls
set_option maxRecDepth 100000
set_option maxHeartbeats 8000000
section
variable {w : World} {mean : ExcName → Option Value} {mg mb : Str → Option Value} {dp un : Nat} {gd : Option (List Code)} {cn : Str} {cs : Scope} {a : Addr} {ccd : Value} {cl : List (Str × Addr)} {outer : List Env} {A₀ : Around} {base h₀ : Heap} {L : Addr} {m : Str → Option Value} {s : Shared} {E : Value → Shared → Prop} {Q : Bool → Shared → Prop}
  {fz r : List (Addr × Obj)} {x dx tl : Addr} {ha hb : Int} {ta tb : Tok} {toks : List Tk} {k : Nat} {tk : Tok} {kd : Str} {wv : Value} {d : Dat}
theorem kind_eq {y : Str} {b : Bool} {p1 p2 p3 p4 p5 : Pos} {c : Nat} (C : Cx w mean mg mb dp un cs A₀ base outer h₀ 5) (F : Fr h₀ L s.heap m) (N : News h₀ L s.heap ((dx, rdObj ha hb ta tb tl k tk) :: r)) (hf : ∀ p ∈ fz, p ∈ r) (R : RdF fz x dx tl toks) (hv : toks[k]? = some (kd, wv, d))
  (hb' : (kd == y) = b) (hm : m (Str.ofString "self") = some (.ref x)) (hxk : (envOf cn cs L a ccd).kindOf (Str.ofString "self") = some .local) {pl : Sem Bool} (he : eval (.Call (.Attribute (.Name (Str.ofString "self") p1) (Str.ofString "kind") p2) [] [] p3) (envOf cn cs L a ccd) = (do
      let ov ← eval (.Name (Str.ofString "self") p1) (envOf cn cs L a ccd)
      standAt p2.atName
      let (f, first) ← holding [ov] (getMethod ov (Str.ofString "kind") pl)
      callWith p3 f first (backTo p3 (starEach [] (envOf cn cs L a ccd))) []))
  (ret : ∀ h' tk', Fr h₀ L h' m → News h₀ L h' ((dx, rdObj ha hb ta tb tl k tk) :: r) → Q b { s with heap := h', toks := tk' }) :
  wpAny (model PG w) (ktrTop dp un gd cn cs L a ccd cl outer) (isTrue (.Compare (.Call (.Attribute (.Name (Str.ofString "self") p1) (Str.ofString "kind") p2) [] [] p3) [.Eq] [.Constant (.str y) c p4] p5) (envOf cn cs L a ccd) (eval (.Compare (.Call (.Attribute (.Name (Str.ofString "self") p1) (Str.ofString "kind") p2) [] [] p3) [.Eq] [.Constant (.str y) c p4] p5) (envOf cn cs L a ccd))) Q E s := by
  have C' := And.intro trivial C
  obtain ⟨B, X, T, hk, hd, hu⟩ := C
  have hMk := kstMark
  have hx := R.hx
  have hxr := hf _ hx
  walk1
  refine MethodCall_ (pl := pl) ?_ he
  (repeat' ((fail_if_success (with_reducible show wpAny _ _ (exec (Stmt.While _ _ _ _) _) _ _ _)); first | (k_unfold; (try dsimp only)) | (k_end; kc_close) | walk1 | (dsimp only; walk1) | (leave1; walk_say "STEP leave1"; (try dsimp only)) | (refine useX (by with_reducible assumption) ?_; (try ((fail_if_success (with_reducible show WStep _ _ _ _ _ _ _ Flow.next _)); dsimp only [WStep]))) | fail "no step"))
  show wpAny _ _ (call (.ref 179) [.ref x]) _ _ _
  refine kind_c C'.2 F N hf R hv (fun h' tk' t' F' N' => ?_)
  (repeat' ((fail_if_success (with_reducible show wpAny _ _ (exec (Stmt.While _ _ _ _) _) _ _ _)); first | (k_unfold; (try dsimp only)) | (k_end; kc_close) | walk1 | (dsimp only; walk1) | (leave1; walk_say "STEP leave1"; (try dsimp only)) | (refine useX (by with_reducible assumption) ?_; (try ((fail_if_success (with_reducible show WStep _ _ _ _ _ _ _ Flow.next _)); dsimp only [WStep]))) | fail "no step"))
  exact ret _ _ (by assumption) (by assumption)
theorem kind_ne {y : Str} {b : Bool} {p1 p2 p3 p4 p5 : Pos} {c : Nat} (C : Cx w mean mg mb dp un cs A₀ base outer h₀ 5) (F : Fr h₀ L s.heap m) (N : News h₀ L s.heap ((dx, rdObj ha hb ta tb tl k tk) :: r)) (hf : ∀ p ∈ fz, p ∈ r) (R : RdF fz x dx tl toks) (hv : toks[k]? = some (kd, wv, d))
  (hb' : (kd == y) = b) (hm : m (Str.ofString "self") = some (.ref x)) (hxk : (envOf cn cs L a ccd).kindOf (Str.ofString "self") = some .local) {pl : Sem Bool} (he : eval (.Call (.Attribute (.Name (Str.ofString "self") p1) (Str.ofString "kind") p2) [] [] p3) (envOf cn cs L a ccd) = (do
      let ov ← eval (.Name (Str.ofString "self") p1) (envOf cn cs L a ccd)
      standAt p2.atName
      let (f, first) ← holding [ov] (getMethod ov (Str.ofString "kind") pl)
      callWith p3 f first (backTo p3 (starEach [] (envOf cn cs L a ccd))) []))
  (ret : ∀ h' tk', Fr h₀ L h' m → News h₀ L h' ((dx, rdObj ha hb ta tb tl k tk) :: r) → Q (!b) { s with heap := h', toks := tk' }) :
  wpAny (model PG w) (ktrTop dp un gd cn cs L a ccd cl outer) (isTrue (.Compare (.Call (.Attribute (.Name (Str.ofString "self") p1) (Str.ofString "kind") p2) [] [] p3) [.NotEq] [.Constant (.str y) c p4] p5) (envOf cn cs L a ccd) (eval (.Compare (.Call (.Attribute (.Name (Str.ofString "self") p1) (Str.ofString "kind") p2) [] [] p3) [.NotEq] [.Constant (.str y) c p4] p5) (envOf cn cs L a ccd))) Q E s := by
  have C' := And.intro trivial C
  obtain ⟨B, X, T, hk, hd, hu⟩ := C
  have hMk := kstMark
  have hx := R.hx
  have hxr := hf _ hx
  walk1
  refine MethodCall_ (pl := pl) ?_ he
  (repeat' ((fail_if_success (with_reducible show wpAny _ _ (exec (Stmt.While _ _ _ _) _) _ _ _)); first | (k_unfold; (try dsimp only)) | (k_end; kc_close) | walk1 | (dsimp only; walk1) | (leave1; walk_say "STEP leave1"; (try dsimp only)) | (refine useX (by with_reducible assumption) ?_; (try ((fail_if_success (with_reducible show WStep _ _ _ _ _ _ _ Flow.next _)); dsimp only [WStep]))) | fail "no step"))
  show wpAny _ _ (call (.ref 179) [.ref x]) _ _ _
  refine kind_c C'.2 F N hf R hv (fun h' tk' t' F' N' => ?_)
  (repeat' ((fail_if_success (with_reducible show wpAny _ _ (exec (Stmt.While _ _ _ _) _) _ _ _)); first | (k_unfold; (try dsimp only)) | (k_end; kc_close) | walk1 | (dsimp only; walk1) | (leave1; walk_say "STEP leave1"; (try dsimp only)) | (refine useX (by with_reducible assumption) ?_; (try ((fail_if_success (with_reducible show WStep _ _ _ _ _ _ _ Flow.next _)); dsimp only [WStep]))) | fail "no step"))
  exact ret _ _ (by assumption) (by assumption)
theorem kind_part {b : Bool} {p1 p2 p3 p4 p5 : Pos} (C : Cx w mean mg mb dp un cs A₀ base outer h₀ 5) (F : Fr h₀ L s.heap m) (N : News h₀ L s.heap ((dx, rdObj ha hb ta tb tl k tk) :: r)) (hf : ∀ p ∈ fz, p ∈ r) (R : RdF fz x dx tl toks) (hv : toks[k]? = some (kd, wv, d))
  (hb' : isPart kd = b) (hnm : ∀ {Q : Value → Shared → Prop} {s : Shared}, Fr h₀ L s.heap m → Q (.ref 127) s → wpAny (model PG w) (ktrTop dp un gd cn cs L a ccd cl outer) (eval (.Name (Str.ofString "PART_WORDS") p4) (envOf cn cs L a ccd)) Q E s) (hm : m (Str.ofString "self") = some (.ref x)) (hxk : (envOf cn cs L a ccd).kindOf (Str.ofString "self") = some .local) {pl : Sem Bool} (he : eval (.Call (.Attribute (.Name (Str.ofString "self") p1) (Str.ofString "kind") p2) [] [] p3) (envOf cn cs L a ccd) = (do
      let ov ← eval (.Name (Str.ofString "self") p1) (envOf cn cs L a ccd)
      standAt p2.atName
      let (f, first) ← holding [ov] (getMethod ov (Str.ofString "kind") pl)
      callWith p3 f first (backTo p3 (starEach [] (envOf cn cs L a ccd))) []))
  (ret : ∀ h' tk', Fr h₀ L h' m → News h₀ L h' ((dx, rdObj ha hb ta tb tl k tk) :: r) → Q b { s with heap := h', toks := tk' }) :
  wpAny (model PG w) (ktrTop dp un gd cn cs L a ccd cl outer) (isTrue (.Compare (.Call (.Attribute (.Name (Str.ofString "self") p1) (Str.ofString "kind") p2) [] [] p3) [.In] [.Name (Str.ofString "PART_WORDS") p4] p5) (envOf cn cs L a ccd) (eval (.Compare (.Call (.Attribute (.Name (Str.ofString "self") p1) (Str.ofString "kind") p2) [] [] p3) [.In] [.Name (Str.ofString "PART_WORDS") p4] p5) (envOf cn cs L a ccd))) Q E s := by
  have C' := And.intro trivial C
  obtain ⟨B, X, T, hk, hd, hu⟩ := C
  have hMk := kstMark
  have hx := R.hx
  have hxr := hf _ hx
  walk1
  refine MethodCall_ (pl := pl) ?_ he
  (repeat' ((fail_if_success (with_reducible show wpAny _ _ (exec (Stmt.While _ _ _ _) _) _ _ _)); first | (k_unfold; (try dsimp only)) | (k_end; kc_close) | walk1 | (dsimp only; walk1) | (leave1; walk_say "STEP leave1"; (try dsimp only)) | (refine useX (by with_reducible assumption) ?_; (try ((fail_if_success (with_reducible show WStep _ _ _ _ _ _ _ Flow.next _)); dsimp only [WStep]))) | fail "no step"))
  show wpAny _ _ (call (.ref 179) [.ref x]) _ _ _
  refine kind_c C'.2 F N hf R hv (fun h' tk' t' F' N' => ?_)
  refine hnm F' ?_
  refine in_part F' X T News.nil hb' ?_
  (repeat' ((fail_if_success (with_reducible show wpAny _ _ (exec (Stmt.While _ _ _ _) _) _ _ _)); first | (k_unfold; (try dsimp only)) | (k_end; kc_close) | walk1 | (dsimp only; walk1) | (leave1; walk_say "STEP leave1"; (try dsimp only)) | (refine useX (by with_reducible assumption) ?_; (try ((fail_if_success (with_reducible show WStep _ _ _ _ _ _ _ Flow.next _)); dsimp only [WStep]))) | fail "no step"))
  exact ret _ _ (by assumption) (by assumption)
theorem kind_sym {b : Bool} {p1 p2 p3 p4 p5 : Pos} (C : Cx w mean mg mb dp un cs A₀ base outer h₀ 5) (F : Fr h₀ L s.heap m) (N : News h₀ L s.heap ((dx, rdObj ha hb ta tb tl k tk) :: r)) (hf : ∀ p ∈ fz, p ∈ r) (R : RdF fz x dx tl toks) (hv : toks[k]? = some (kd, wv, d))
  (hb' : isSym kd = b) (hnm : ∀ {Q : Value → Shared → Prop} {s : Shared}, Fr h₀ L s.heap m → Q (.ref 126) s → wpAny (model PG w) (ktrTop dp un gd cn cs L a ccd cl outer) (eval (.Name (Str.ofString "SYM_KINDS") p4) (envOf cn cs L a ccd)) Q E s) (hm : m (Str.ofString "self") = some (.ref x)) (hxk : (envOf cn cs L a ccd).kindOf (Str.ofString "self") = some .local) {pl : Sem Bool} (he : eval (.Call (.Attribute (.Name (Str.ofString "self") p1) (Str.ofString "kind") p2) [] [] p3) (envOf cn cs L a ccd) = (do
      let ov ← eval (.Name (Str.ofString "self") p1) (envOf cn cs L a ccd)
      standAt p2.atName
      let (f, first) ← holding [ov] (getMethod ov (Str.ofString "kind") pl)
      callWith p3 f first (backTo p3 (starEach [] (envOf cn cs L a ccd))) []))
  (ret : ∀ h' tk', Fr h₀ L h' m → News h₀ L h' ((dx, rdObj ha hb ta tb tl k tk) :: r) → Q b { s with heap := h', toks := tk' }) :
  wpAny (model PG w) (ktrTop dp un gd cn cs L a ccd cl outer) (isTrue (.Compare (.Call (.Attribute (.Name (Str.ofString "self") p1) (Str.ofString "kind") p2) [] [] p3) [.In] [.Name (Str.ofString "SYM_KINDS") p4] p5) (envOf cn cs L a ccd) (eval (.Compare (.Call (.Attribute (.Name (Str.ofString "self") p1) (Str.ofString "kind") p2) [] [] p3) [.In] [.Name (Str.ofString "SYM_KINDS") p4] p5) (envOf cn cs L a ccd))) Q E s := by
  have C' := And.intro trivial C
  obtain ⟨B, X, T, hk, hd, hu⟩ := C
  have hMk := kstMark
  have hx := R.hx
  have hxr := hf _ hx
  walk1
  refine MethodCall_ (pl := pl) ?_ he
  (repeat' ((fail_if_success (with_reducible show wpAny _ _ (exec (Stmt.While _ _ _ _) _) _ _ _)); first | (k_unfold; (try dsimp only)) | (k_end; kc_close) | walk1 | (dsimp only; walk1) | (leave1; walk_say "STEP leave1"; (try dsimp only)) | (refine useX (by with_reducible assumption) ?_; (try ((fail_if_success (with_reducible show WStep _ _ _ _ _ _ _ Flow.next _)); dsimp only [WStep]))) | fail "no step"))
  show wpAny _ _ (call (.ref 179) [.ref x]) _ _ _
  refine kind_c C'.2 F N hf R hv (fun h' tk' t' F' N' => ?_)
  refine hnm F' ?_
  refine in_sym F' X (by ktr_units) hb' (fun tk9 => ?_)
  (repeat' ((fail_if_success (with_reducible show wpAny _ _ (exec (Stmt.While _ _ _ _) _) _ _ _)); first | (k_unfold; (try dsimp only)) | (k_end; kc_close) | walk1 | (dsimp only; walk1) | (leave1; walk_say "STEP leave1"; (try dsimp only)) | (refine useX (by with_reducible assumption) ?_; (try ((fail_if_success (with_reducible show WStep _ _ _ _ _ _ _ Flow.next _)); dsimp only [WStep]))) | fail "no step"))
  exact ret _ _ (by assumption) (by assumption)
end
end

section
theorem start_Al : True := by
  w_top off
  k_with_none
  (k_with "k_room!" => (((try simp only [depth_under_make, depth_under_kw, depth_in1, depth_deeper, depth_caller]); (try dsimp only [ktrTop]); omega)))
  (k_with "ktr_room!" => (((try simp only [depth_under_make, depth_under_kw, depth_in1, depth_deeper, depth_caller]); (try dsimp only [ktrTop]); omega)))
  (k_with "ktr_units!" => (((try simp only [units_in1, units_deeper, Around.mark_units, units_caller]); (try dsimp only [ktrTop]); omega)))
  (k_with "ktr_rel!" => (first | k_asm | exact rot1 (by k_asm) | exact rot2 (by k_asm) | exact rot3 (by k_asm)))
  (k_with "tb_rel!" => (first | k_asm | exact fun _ h => h | (intro p hp; k_mem)))
  (k_with "size_fits!" => (((try simp only [List.size_toArray, List.length_append, List.length_cons, List.length_nil, PySem.sizeLine_eq]); omega)))
  (k_with "call ref!" => (k_here; (try dsimp only [List.nil_append, List.cons_append]); (with_reducible show wpAny _ _ (call (Value.ref 179) _ _) _ _ _); k_dflt (refine' kind_c ?zzC ?zzF ?zzN ?zzhf ?zzR ?zzhv ?_; (case zzF => k_asm); (case zzN => ktr_rel); (case zzC => tb_start); (case zzR => k_asm); (case zzhf => tb_rel); (case zzhv => assumption); k_whole; intro _ _ _ _ _; (try k_sweep))))
  (k_with "call ref!" => (k_here; (try dsimp only [List.nil_append, List.cons_append]); (with_reducible show wpAny _ _ (call (Value.ref 186) _ _) _ _ _); k_dflt (refine' take_c ?zzC ?zzF ?zzN ?zzhne ?zzhf ?zzR ?zzhv ?_; (case zzF => k_asm); (case zzN => ktr_rel); (case zzC => tb_start); (case zzR => k_asm); (case zzhf => tb_rel); (case zzhv => assumption); (case zzhne => k_all); k_whole; intro _ _ _ _ _; (try k_sweep))))
  (k_with "call ref!" => (k_here; (try dsimp only [List.nil_append, List.cons_append]); (with_reducible show wpAny _ _ (call (Value.ref 193) _ _) _ _ _); k_dflt (refine' refuse_c ?zzC ?zzF ?zzN ?zzhf ?zzR ?zzhv ?_; (case zzF => k_asm); (case zzN => ktr_rel); (case zzC => tb_start); (case zzR => k_asm); (case zzhf => tb_rel); (case zzhv => assumption); k_whole; intro _ _ _ _ _ _ _ _ _ _ _)))
  (k_with "compareOp In str ref!" => (k_here; (with_reducible show wpAny _ _ (compareOp CmpOp.In (Value.str _ _) (Value.ref 127)) _ _ _); k_dflt (refine' in_part ?zzF ?zzX ?zzT ?zzN ?zzb ?_; (case zzF => k_asm); (case zzX => k_asm); (case zzT => k_asm); (case zzN => exact News.nil); (case zzb => assumption); k_whole)))
  (k_with "compareOp In str ref!" => (k_here; (with_reducible show wpAny _ _ (compareOp CmpOp.In (Value.str _ _) (Value.ref 126)) _ _ _); k_dflt (refine' in_sym ?zzF ?zzX ?zzu ?zzb ?_; (case zzF => k_asm); (case zzX => k_asm); (case zzu => ktr_units); (case zzb => assumption); k_whole; intro _)))
  (k_with "compareOp Eq str str!" => (k_here; (with_reducible show wpAny _ _ (compareOp CmpOp.Eq (Value.str _ _) (Value.str _ _)) _ _ _); k_dflt (refine' eq_strB ?zzb ?_; (case zzb => with_reducible assumption); k_whole)))
  (k_with "compareOp NotEq str str!" => (k_here; (with_reducible show wpAny _ _ (compareOp CmpOp.NotEq (Value.str _ _) (Value.str _ _)) _ _ _); k_dflt (refine' ne_strB ?zzb ?_; (case zzb => with_reducible assumption); k_whole)))
  (k_with "leaving ref!" => (k_here; k_dflt (refine' leave_onX ?zzk1 ?zzk2 ?zzk3 ?zzk4 ?_; (case zzk3 => assumption); (case zzk1 => assumption); (case zzk4 => assumption); (case zzk2 => assumption); k_whole; intro zzhq zzRq zzUq; (try dsimp only at zzRq zzUq ⊢); (revert zzhq zzRq zzUq; intro _ _ _))))
  (k_with "call ref!" => (k_here; (try dsimp only [List.nil_append, List.cons_append]); (with_reducible show wpAny _ _ (call (Value.ref 228) _ _) _ _ _); k_dflt (refine' part_c (mu := (_, _) :: _) ?zzC ?zzF ?zzN ?zzhm ?zzhne ?zzR ?zzhv ?zzhkd ?_; (case zzF => k_asm); (case zzN => ktr_rel); (case zzC => tb_start); (case zzR => k_asm); (case zzhv => assumption); (case zzhm => k_all); (case zzhne => k_all); (case zzhkd => assumption); k_whole; intro zzhq zztkq zztq zzvq zzfzq zzFq zzNq zzGq zzDq; (have zzhG1 := Grow.neD zzGq (by k_all)); (have zzhG2 := Grow.neM zzGq (.head _) (by k_all)); (have zzhG3 := RdF.mono (by k_asm) (Grow.sub zzGq)); (have zzhG4 := zzhG3.hx); (try dsimp only [List.cons_append] at zzNq); (revert zzhq zztkq zztq zzvq zzfzq zzFq zzNq zzGq zzDq zzhG1 zzhG2 zzhG3 zzhG4; intro _ _ _ _ _ _ _ _ _ _ _ _ _); (try k_sweep))))
  (k_with "isTrue Compare!" => (k_here; (with_reducible show wpAny _ _ (isTrue (PySem.Expr.Compare (PySem.Expr.Call (PySem.Expr.Attribute (PySem.Expr.Name _ _) (Str.ofString "kind") _) [] [] _) [CmpOp.Eq] [PySem.Expr.Constant (PySem.Const.str _) _ _] _) _ _) _ _ _); k_dflt (refine' kind_eq ?zzC ?zzF ?zzN ?zzhf ?zzR ?zzhv ?zzhb ?zzhm ?zzhx ?zzhe ?_; (case zzhb => with_reducible assumption); (case zzF => k_asm); (case zzN => ktr_rel); (case zzC => tb_start); (case zzR => k_asm); (case zzhf => tb_rel); (case zzhv => assumption); (case zzhm => rfl); (case zzhx => rfl); (case zzhe => rfl); k_whole; intro _ _ _ _; (try k_sweep))))
  (k_with "isTrue Compare!" => (k_here; (with_reducible show wpAny _ _ (isTrue (PySem.Expr.Compare (PySem.Expr.Call (PySem.Expr.Attribute (PySem.Expr.Name _ _) (Str.ofString "kind") _) [] [] _) [CmpOp.NotEq] [PySem.Expr.Constant (PySem.Const.str _) _ _] _) _ _) _ _ _); k_dflt (refine' kind_ne ?zzC ?zzF ?zzN ?zzhf ?zzR ?zzhv ?zzhb ?zzhm ?zzhx ?zzhe ?_; (case zzhb => with_reducible assumption); (case zzF => k_asm); (case zzN => ktr_rel); (case zzC => tb_start); (case zzR => k_asm); (case zzhf => tb_rel); (case zzhv => assumption); (case zzhm => rfl); (case zzhx => rfl); (case zzhe => rfl); k_whole; intro _ _ _ _; (try k_sweep))))
  (k_with "isTrue Compare!" => (k_here; (with_reducible show wpAny _ _ (isTrue (PySem.Expr.Compare (PySem.Expr.Call (PySem.Expr.Attribute (PySem.Expr.Name _ _) (Str.ofString "kind") _) [] [] _) [CmpOp.In] [PySem.Expr.Name (Str.ofString "PART_WORDS") _] _) _ _) _ _ _); k_dflt (refine' kind_part ?zzC ?zzF ?zzN ?zzhf ?zzR ?zzhv ?zzhb ?zzhn ?zzhm ?zzhx ?zzhe ?_; (case zzhb => with_reducible assumption); (case zzF => k_asm); (case zzN => ktr_rel); (case zzC => tb_start); (case zzR => k_asm); (case zzhf => tb_rel); (case zzhv => assumption); (case zzhn => (intro _ _ _ _; walk1; with_reducible assumption)); (case zzhm => rfl); (case zzhx => rfl); (case zzhe => rfl); k_whole; intro _ _ _ _; (try k_sweep))))
  (k_with "isTrue Compare!" => (k_here; (with_reducible show wpAny _ _ (isTrue (PySem.Expr.Compare (PySem.Expr.Call (PySem.Expr.Attribute (PySem.Expr.Name _ _) (Str.ofString "kind") _) [] [] _) [CmpOp.In] [PySem.Expr.Name (Str.ofString "SYM_KINDS") _] _) _ _) _ _ _); k_dflt (refine' kind_sym ?zzC ?zzF ?zzN ?zzhf ?zzR ?zzhv ?zzhb ?zzhn ?zzhm ?zzhx ?zzhe ?_; (case zzhb => with_reducible assumption); (case zzF => k_asm); (case zzN => ktr_rel); (case zzC => tb_start); (case zzR => k_asm); (case zzhf => tb_rel); (case zzhv => assumption); (case zzhn => (intro _ _ _ _; walk1; with_reducible assumption)); (case zzhm => rfl); (case zzhx => rfl); (case zzhe => rfl); k_whole; intro _ _ _ _; (try k_sweep))))
  trivial
open PySem PySem.W PyProof.Rows PySem.Spec PySem.Calls
set_option maxRecDepth 100000
set_option maxHeartbeats 8000000
theorem isPart_or {kd : Str} (h : isPart kd = true) : kd = Str.ofString "NAME" ∨ kd = Str.ofString "LITERAL" ∨ kd = Str.ofString "ACTION" ∨ kd = Str.ofString "EMPTY" := by
  unfold isPart at h
  simpa using h
theorem isPart_ne {kd : Str} (h : isPart kd = true) : kd ≠ S "$end" := by
  rcases isPart_or h with h | h | h | h <;> (subst h; decide)
theorem led_push {dx pl : Addr} {o : Obj} {vsp : List Value} {v : Value} {n : Nat} {r : List (Addr × Obj)} : (dx, o) :: (pl, W.listOf (vsp.toArray.push v) n) :: r = (dx, o) :: (pl, W.listOf (vsp ++ [v]).toArray n) :: r := by rw [List.push_toArray]
theorem news_two {h₀ h : Heap} {L : Addr} {a b c : Addr × Obj} {mu fz : List (Addr × Obj)} (N : News h₀ L h (a :: b :: c :: (mu ++ fz))) : News h₀ L h (b :: (mu ++ (a :: c :: fz))) := fun p hp => N p (by
  simp only [List.mem_cons, List.mem_append] at hp ⊢; rcases hp with h | h | h | h | h <;> simp [h])
theorem andAllE2 {a b q : Addr} {mu fz : List (Addr × Obj)} (h : a < q ∧ b < q ∧ AllLt q (mu ++ fz)) : ∃ pl, pl = q ∧ a < pl ∧ (∀ p ∈ mu, p.1 < pl) ∧ ∀ p ∈ fz, p.1 < pl :=
  ⟨q, rfl, andAll ⟨h.1, h.2.2⟩⟩
theorem subNews {b : Addr × Obj} {mu fz fzj n : List (Addr × Obj)} (h : ∀ p ∈ b :: (mu ++ fzj), p ∈ n) (g : ∀ p ∈ fz, p ∈ fzj) : ∀ p ∈ mu ++ fz, p ∈ n := fun p hp =>
  h p (mem_tl ((List.mem_append.mp hp).elim (fun q => List.mem_append_left _ q) fun q => List.mem_append_right _ (g p q)))
theorem altTail_np {k : Nat} {acc : List Dat} {t : Tk} {r : List Tk} (h : t.1 ≠ S "PREC") : altTail k acc (t :: r) = .ok (.tuple [.list acc, .str (S "")]) k := by
  cases r <;> simp only [altTail, if_neg h]
theorem altTail_p {k : Nat} {acc : List Dat} {t u v : Tk} {r : List Tk} (h : t.1 = S "PREC") : altTail k acc (t :: u :: v :: r) = if isNL u.1 = true then (if v.1 = S "ACTION" then .ok (.tuple [.list (acc ++ [partDat v.1 v.2.2]), u.2.2]) (k + 3) else .ok (.tuple [.list acc, u.2.2]) (k + 2)) else .err (k + 1) := by
  simp only [altTail, if_pos h]
theorem altTail_e {k : Nat} {acc : List Dat} {t u : Tk} {r : List Tk} (h : t.1 = S "PREC") (hu : isNL u.1 = false) : altTail k acc (t :: u :: r) = .err (k + 1) := by
  simp only [altTail, if_pos h, hu, Bool.false_eq_true, if_false]
theorem datList_push {news : List (Addr × Obj)} {pl : Addr} {vsp : List Value} {v : Value} {n : Nat} {ds : List Dat} (h : (pl, W.listOf (vsp.toArray.push v) n) ∈ news) (a : DatAll news (vsp ++ [v]) ds) : DatIn news (.ref pl) (.list ds) :=
  DatIn.list (vs := vsp ++ [v]) (n := n) (by rw [← List.push_toArray]; exact h) a
theorem Grow.two {dx pl tp : Addr} {mu fz fzj : List (Addr × Obj)} {o o' : Obj} (G : Grow dx mu fz fzj) (a : dx < pl ∧ (∀ p ∈ mu, p.1 < pl) ∧ ∀ p ∈ fz, p.1 < pl) (b : dx < tp ∧ (∀ p ∈ mu, p.1 < tp) ∧ ∀ p ∈ fzj, p.1 < tp) : Grow dx mu fz ((tp, o) :: (pl, o') :: fzj) :=
  ⟨fun p hp => mem_tl (mem_tl (G.sub p hp)), fun q hq => by
    rcases List.mem_cons.mp hq with rfl | hq
    · exact .inr ⟨b.1, b.2.1, fun p hp => b.2.2 p (G.sub p hp)⟩
    · rcases List.mem_cons.mp hq with rfl | hq
      · exact .inr a
      · exact G.new q hq⟩
section
variable {w : World} {mean : ExcName → Option Value} {mg mb : Str → Option Value} {dp un : Nat} {gd : Option (List Code)} {cn : Str} {cs : Scope} {a : Addr} {ccd : Value} {cl : List (Str × Addr)} {outer : List Env} {A₀ : Around} {base h₀ : Heap} {L : Addr} {m : Str → Option Value} {s : Shared} {Q E : Value → Shared → Prop}
  {fz mu r : List (Addr × Obj)} {x dx tl : Addr} {ha hb : Int} {ta tb : Tok} {toks rest : List Tk} {k : Nat} {tk : Tok} {kd : Str} {wv : Value} {d : Dat}
theorem alt_c (C : Cx w mean mg mb dp un cs A₀ base outer h₀ 8) (F : Fr h₀ L s.heap m) (N : News h₀ L s.heap ((dx, rdObj ha hb ta tb tl k tk) :: (mu ++ fz))) (hm : ∀ p ∈ mu, p.1 ≠ dx) (hne : ∀ p ∈ fz, p.1 ≠ dx) (R : RdF fz x dx tl toks) (hr : toks.drop k = rest) (hlive : Live rest)
  (ret : ∀ h' tk' t' v fz' D k', altS k [] rest = .ok D k' → Fr h₀ L h' m → News h₀ L h' ((dx, rdObj ha hb ta tb tl k' t') :: (mu ++ fz')) → Grow dx mu fz fz' → DatIn fz' v D → Live (toks.drop k') → Q v { s with heap := h', toks := tk' })
  (exc : ∀ e d g₂ h' tk' news' k', altS k [] rest = .err k' → RaisedX base (envX cn cs L a ccd cl :: outer) e d news' h' → ErrAt news' d (7 * (k' : Int)) → (∀ p ∈ mu ++ fz, p ∈ news') → Fr h₀ L g₂ m → g₂.UpToSlots h' → E (.ref e) { s with heap := h', toks := tk' }) :
  wpAny (model PG w) (ktrTop dp un gd cn cs L a ccd cl outer) (call (.ref 221) [.ref x]) Q E s := by
  obtain ⟨B, X, T, hk, hd, hu⟩ := C
  have hMk := kstMark
  have hx := R.hx
  refine wpAny_call ?_
  k_dflt ktr_enter
  (repeat' ((fail_if_success (with_reducible show wpAny _ _ (exec (Stmt.While _ _ _ _) _) _ _ _)); first | (k_unfold; (try dsimp only)) | (k_end; kc_close) | walk1 | (dsimp only; walk1) | (leave1; walk_say "STEP leave1"; (try dsimp only)) | (refine useX (by with_reducible assumption) ?_; (try ((fail_if_success (with_reducible show WStep _ _ _ _ _ _ _ Flow.next _)); dsimp only [WStep]))) | fail "no step"))
  obtain ⟨pl, hpl, l1, l2, l3⟩ := andAllE (by assumption)
  subst hpl

  refine while_const (fun n nw => ∃ j acc vsp np t' fzj rj, nw = (dx, rdObj ha hb ta tb tl j t') :: (pl, W.listOf (List.toArray vsp) np) :: (mu ++ fzj) ∧ toks.drop j = rj ∧ n = rj.length ∧ Live rj ∧ altS j acc rj = altS k [] rest ∧ DatAll fzj vsp acc ∧ Grow dx mu fz fzj ∧ (∀ p ∈ fzj, p.1 ≠ pl) ∧ vsp.length ≤ j) _ (by assumption) (by ktr_rel) ⟨k, [], [], _, _, fz, rest, rfl, hr, rfl, hlive, rfl, .nil, .refl, fun p hp => Nat.ne_of_lt (l3 p hp), Nat.zero_le _⟩ ?_
  rintro n nw h1 tk1 F1 N1 ⟨j, acc, vsp, np, t1, fzj, rj, rfl, hj, rfl, hL, hS, hA, hG, hpl, hlen⟩
  refine abs_while fun W9 hW9 => ?_
  have R1 := R.mono hG.sub
  have hx1 := R1.hx
  have hne1 := hG.neD hne
  have hpm : ∀ p ∈ mu, p.1 ≠ pl := fun p hp => Nat.ne_of_lt (l2 p hp)
  cases rj with
  | nil => exact absurd rfl hL.ne
  | cons t r1 =>
    obtain ⟨kd, wv, d⟩ := t
    have hv := drop_get hj
    have hj9 : j < 900 := by
      have := (List.getElem?_eq_some_iff.mp hv).1
      have := R.len
      omega
    cases hp : isPart kd with
    | false =>
      have hS0 : altTail j acc ((kd, wv, d) :: r1) = altS k [] rest := by rw [← hS, altS, if_neg (by rw [hp]; decide)]
      cases hq : (kd == S "PREC") with
      | false =>
        have hq' : kd ≠ S "PREC" := beq_eq_false_iff_ne.mp hq
        (repeat' ((fail_if_success (with_reducible show wpAny _ _ (exec (Stmt.While _ _ _ _) _) _ _ _)); first | (k_unfold; (try dsimp only)) | (k_end; kc_close) | walk1 | (dsimp only; walk1) | (leave1; walk_say "STEP leave1"; (try dsimp only)) | (refine useX (by with_reducible assumption) ?_; (try ((fail_if_success (with_reducible show WStep _ _ _ _ _ _ _ Flow.next _)); dsimp only [WStep]))) | fail "no step"))
        obtain ⟨tp, htp, u1, u2, u3⟩ := andAllE2 (by assumption)
        subst htp
        refine ret _ _ _ _ _ _ _ ?_ (by assumption) (news_two (by assumption)) (Grow.two hG ⟨l1, l2, l3⟩ ⟨u1, u2, u3⟩) (DatIn.tuple (.head _) (.cons (DatIn.list (.tail _ (.head _)) (hA.mono fun p h => mem_tl (mem_tl h))) (.cons (.str _ _) .nil))) (hj ▸ hL)
        rw [← hS0, altTail_np hq']
      | true =>
        have hq' : kd = S "PREC" := beq_iff_eq.mp hq
        have hL1 : Live r1 := hL.tail (by subst hq'; show S "PREC" ≠ S "$end"; decide)
        have hj1 := drop_next hj
        cases r1 with
        | nil => exact absurd rfl hL1.ne
        | cons u r2 =>
          obtain ⟨ku, wu, du⟩ := u
          have hv1 := drop_get hj1
          have hj2 := drop_next hj1
          cases hn : isNL ku with
          | false => 
            have hn1 : (ku == S "NAME") = false := by unfold isNL at hn; simpa using (Bool.or_eq_false_iff.mp hn).1
            have hn2 : (ku == S "LITERAL") = false := by unfold isNL at hn; simpa using (Bool.or_eq_false_iff.mp hn).2
            (repeat' ((fail_if_success (with_reducible show wpAny _ _ (exec (Stmt.While _ _ _ _) _) _ _ _)); first | (k_unfold; (try dsimp only)) | (k_end; kc_close) | walk1 | (dsimp only; walk1) | (leave1; walk_say "STEP leave1"; (try dsimp only)) | (refine useX (by with_reducible assumption) ?_; (try ((fail_if_success (with_reducible show WStep _ _ _ _ _ _ _ Flow.next _)); dsimp only [WStep]))) | fail "no step"))
            refine exc _ _ _ _ _ _ (j + 1) ?_ (by assumption) (by assumption) ?_ (by assumption) (by assumption)
            · rw [← hS0, altTail_e hq' hn]
            · exact subNews (by assumption) hG.sub
          | true =>
            have hL2 : Live r2 := hL1.tail (by unfold isNL at hn; rintro rfl; revert hn; decide)
            cases r2 with
            | nil => exact absurd rfl hL2.ne
            | cons y r3 =>
              obtain ⟨ky, wy, dy⟩ := y
              have hv2 := drop_get hj2
              have hj3 := drop_next hj2
              have hS1 := hS0
              rw [altTail_p hq', if_pos hn] at hS1
              have hdu : DatIn fzj wu du := (R1.dat _ (List.mem_of_getElem? hv1)).1
              have hw : handedIn wu = true := (R.dat _ (List.mem_of_getElem? hv1)).1.handed
              cases ha : (ky == S "ACTION") with
              | false =>
                rw [if_neg (beq_eq_false_iff_ne.mp ha)] at hS1
                cases h1 : (ku == S "NAME") with
                | true =>
                  (repeat' ((fail_if_success (with_reducible show wpAny _ _ (exec (Stmt.While _ _ _ _) _) _ _ _)); first | (k_unfold; (try dsimp only)) | (k_end; kc_close) | walk1 | (dsimp only; walk1) | (leave1; walk_say "STEP leave1"; (try dsimp only)) | (refine useX (by with_reducible assumption) ?_; (try ((fail_if_success (with_reducible show WStep _ _ _ _ _ _ _ Flow.next _)); dsimp only [WStep]))) | fail "no step"))
                  obtain ⟨tp, htp, u1, u2, u3⟩ := andAllE2 (by assumption)
                  subst htp
                  exact ret _ _ _ _ _ _ _ hS1.symm (by assumption) (news_two (by assumption)) (Grow.two hG ⟨l1, l2, l3⟩ ⟨u1, u2, u3⟩) (DatIn.tuple (.head _) (.cons (DatIn.list (.tail _ (.head _)) (hA.mono fun p h => mem_tl (mem_tl h))) (.cons (hdu.mono fun p h => mem_tl (mem_tl h)) .nil))) (hj2 ▸ hL2)
                | false =>
                  have h2 : (ku == S "LITERAL") = true := by unfold isNL at hn; rw [beq_eq_false_iff_ne] at h1; simpa [h1] using hn
                  (repeat' ((fail_if_success (with_reducible show wpAny _ _ (exec (Stmt.While _ _ _ _) _) _ _ _)); first | (k_unfold; (try dsimp only)) | (k_end; kc_close) | walk1 | (dsimp only; walk1) | (leave1; walk_say "STEP leave1"; (try dsimp only)) | (refine useX (by with_reducible assumption) ?_; (try ((fail_if_success (with_reducible show WStep _ _ _ _ _ _ _ Flow.next _)); dsimp only [WStep]))) | fail "no step"))
                  obtain ⟨tp, htp, u1, u2, u3⟩ := andAllE2 (by assumption)
                  subst htp
                  exact ret _ _ _ _ _ _ _ hS1.symm (by assumption) (news_two (by assumption)) (Grow.two hG ⟨l1, l2, l3⟩ ⟨u1, u2, u3⟩) (DatIn.tuple (.head _) (.cons (DatIn.list (.tail _ (.head _)) (hA.mono fun p h => mem_tl (mem_tl h))) (.cons (hdu.mono fun p h => mem_tl (mem_tl h)) .nil))) (hj2 ▸ hL2)
              | true =>
                have ha' := beq_iff_eq.mp ha
                rw [if_pos ha'] at hS1
                have hL3 : Live r3 := hL2.tail (by subst ha'; show S "ACTION" ≠ S "$end"; decide)
                have hkd : ky = Str.ofString "NAME" ∨ ky = Str.ofString "LITERAL" ∨ ky = Str.ofString "ACTION" ∨ ky = Str.ofString "EMPTY" := .inr (.inr (.inl ha'))
                cases h1 : (ku == S "NAME") with
                | true =>
                  (repeat' ((fail_if_success (with_reducible show wpAny _ _ (exec (Stmt.While _ _ _ _) _) _ _ _)); first | (k_unfold; (try dsimp only)) | (k_end; kc_close) | walk1 | (dsimp only; walk1) | (leave1; walk_say "STEP leave1"; (try dsimp only)) | (refine useX (by with_reducible assumption) ?_; (try ((fail_if_success (with_reducible show WStep _ _ _ _ _ _ _ Flow.next _)); dsimp only [WStep]))) | fail "no step"))
                  obtain ⟨tp, htp, u1, u2, u3⟩ := andAllE2 (by assumption)
                  subst htp
                  exact ret _ _ _ _ _ _ _ hS1.symm (by assumption) (news_two (by assumption)) (Grow.two (hG.trans (Grow.less (by assumption) fun p h => mem_tl h)) ⟨l1, l2, l3⟩ ⟨u1, u2, u3⟩)
                    (DatIn.tuple (.head _) (.cons (datList_push (.tail _ (.head _)) ((hA.mono fun p h => mem_tl (mem_tl (Grow.sub (by assumption) p h))).append (.one (DatIn.mono (fun p h => mem_tl (mem_tl h)) (by assumption))))) (.cons (hdu.mono fun p h => mem_tl (mem_tl (Grow.sub (by assumption) p h))) .nil))) (hj3 ▸ hL3)
                | false =>
                  have h2 : (ku == S "LITERAL") = true := by unfold isNL at hn; rw [beq_eq_false_iff_ne] at h1; simpa [h1] using hn
                  (repeat' ((fail_if_success (with_reducible show wpAny _ _ (exec (Stmt.While _ _ _ _) _) _ _ _)); first | (k_unfold; (try dsimp only)) | (k_end; kc_close) | walk1 | (dsimp only; walk1) | (leave1; walk_say "STEP leave1"; (try dsimp only)) | (refine useX (by with_reducible assumption) ?_; (try ((fail_if_success (with_reducible show WStep _ _ _ _ _ _ _ Flow.next _)); dsimp only [WStep]))) | fail "no step"))
                  obtain ⟨tp, htp, u1, u2, u3⟩ := andAllE2 (by assumption)
                  subst htp
                  exact ret _ _ _ _ _ _ _ hS1.symm (by assumption) (news_two (by assumption)) (Grow.two (hG.trans (Grow.less (by assumption) fun p h => mem_tl h)) ⟨l1, l2, l3⟩ ⟨u1, u2, u3⟩)
                    (DatIn.tuple (.head _) (.cons (datList_push (.tail _ (.head _)) ((hA.mono fun p h => mem_tl (mem_tl (Grow.sub (by assumption) p h))).append (.one (DatIn.mono (fun p h => mem_tl (mem_tl h)) (by assumption))))) (.cons (hdu.mono fun p h => mem_tl (mem_tl (Grow.sub (by assumption) p h))) .nil))) (hj3 ▸ hL3)
    | true =>
      have hkd := isPart_or hp
      (repeat' ((fail_if_success (with_reducible show wpAny _ _ (exec (Stmt.While _ _ _ _) _) _ _ _)); first | (k_unfold; (try dsimp only)) | (k_end; kc_close) | walk1 | (dsimp only; walk1) | (leave1; walk_say "STEP leave1"; (try dsimp only)) | (refine useX (by with_reducible assumption) ?_; (try ((fail_if_success (with_reducible show WStep _ _ _ _ _ _ _ Flow.next _)); dsimp only [WStep]))) | fail "no step"))
      refine WStep.next _ _ _ r1.length (by assumption) (by assumption) (by simp) ⟨_, _, _, _, _, _, _, led_push, drop_next hj, rfl, hL.tail (isPart_ne hp), ?_, (hA.mono (Grow.sub (by assumption))).append (.one (by assumption)), hG.trans (Grow.less (by assumption) fun p h => mem_tl h), by assumption, ?_⟩
      · rw [← hS, altS, if_pos hp]
      · simp only [List.length_append, List.length_cons, List.length_nil]; omega
end
end

section
theorem start_Ru : True := by
  w_top off
  k_with_none
  (k_with "k_room!" => (((try simp only [depth_under_make, depth_under_kw, depth_in1, depth_deeper, depth_caller]); (try dsimp only [ktrTop]); omega)))
  (k_with "ktr_room!" => (((try simp only [depth_under_make, depth_under_kw, depth_in1, depth_deeper, depth_caller]); (try dsimp only [ktrTop]); omega)))
  (k_with "ktr_units!" => (((try simp only [units_in1, units_deeper, Around.mark_units, units_caller]); (try dsimp only [ktrTop]); omega)))
  (k_with "ktr_rel!" => (first | k_asm | exact rot1 (by k_asm) | exact rot2 (by k_asm) | exact rot3 (by k_asm)))
  (k_with "tb_rel!" => (first | k_asm | exact fun _ h => h | (intro p hp; k_mem)))
  (k_with "size_fits!" => (((try simp only [List.size_toArray, List.length_append, List.length_cons, List.length_nil, PySem.sizeLine_eq]); omega)))
  (k_with "call ref!" => (k_here; (try dsimp only [List.nil_append, List.cons_append]); (with_reducible show wpAny _ _ (call (Value.ref 179) _ _) _ _ _); k_dflt (refine' kind_c ?zzC ?zzF ?zzN ?zzhf ?zzR ?zzhv ?_; (case zzF => k_asm); (case zzN => ktr_rel); (case zzC => tb_start); (case zzR => k_asm); (case zzhf => tb_rel); (case zzhv => assumption); k_whole; intro _ _ _ _ _; (try k_sweep))))
  (k_with "call ref!" => (k_here; (try dsimp only [List.nil_append, List.cons_append]); (with_reducible show wpAny _ _ (call (Value.ref 186) _ _) _ _ _); k_dflt (refine' take_c ?zzC ?zzF ?zzN ?zzhne ?zzhf ?zzR ?zzhv ?_; (case zzF => k_asm); (case zzN => ktr_rel); (case zzC => tb_start); (case zzR => k_asm); (case zzhf => tb_rel); (case zzhv => assumption); (case zzhne => k_all); k_whole; intro _ _ _ _ _; (try k_sweep))))
  (k_with "call ref!" => (k_here; (try dsimp only [List.nil_append, List.cons_append]); (with_reducible show wpAny _ _ (call (Value.ref 193) _ _) _ _ _); k_dflt (refine' refuse_c ?zzC ?zzF ?zzN ?zzhf ?zzR ?zzhv ?_; (case zzF => k_asm); (case zzN => ktr_rel); (case zzC => tb_start); (case zzR => k_asm); (case zzhf => tb_rel); (case zzhv => assumption); k_whole; intro _ _ _ _ _ _ _ _ _ _ _)))
  (k_with "compareOp In str ref!" => (k_here; (with_reducible show wpAny _ _ (compareOp CmpOp.In (Value.str _ _) (Value.ref 127)) _ _ _); k_dflt (refine' in_part ?zzF ?zzX ?zzT ?zzN ?zzb ?_; (case zzF => k_asm); (case zzX => k_asm); (case zzT => k_asm); (case zzN => exact News.nil); (case zzb => assumption); k_whole)))
  (k_with "compareOp In str ref!" => (k_here; (with_reducible show wpAny _ _ (compareOp CmpOp.In (Value.str _ _) (Value.ref 126)) _ _ _); k_dflt (refine' in_sym ?zzF ?zzX ?zzu ?zzb ?_; (case zzF => k_asm); (case zzX => k_asm); (case zzu => ktr_units); (case zzb => assumption); k_whole; intro _)))
  (k_with "compareOp Eq str str!" => (k_here; (with_reducible show wpAny _ _ (compareOp CmpOp.Eq (Value.str _ _) (Value.str _ _)) _ _ _); k_dflt (refine' eq_strB ?zzb ?_; (case zzb => with_reducible assumption); k_whole)))
  (k_with "compareOp NotEq str str!" => (k_here; (with_reducible show wpAny _ _ (compareOp CmpOp.NotEq (Value.str _ _) (Value.str _ _)) _ _ _); k_dflt (refine' ne_strB ?zzb ?_; (case zzb => with_reducible assumption); k_whole)))
  (k_with "leaving ref!" => (k_here; k_dflt (refine' leave_onX ?zzk1 ?zzk2 ?zzk3 ?zzk4 ?_; (case zzk3 => assumption); (case zzk1 => assumption); (case zzk4 => assumption); (case zzk2 => assumption); k_whole; intro zzhq zzRq zzUq; (try dsimp only at zzRq zzUq ⊢); (revert zzhq zzRq zzUq; intro _ _ _))))
  (k_with "call ref!" => (k_here; (try dsimp only [List.nil_append, List.cons_append]); (with_reducible show wpAny _ _ (call (Value.ref 228) _ _) _ _ _); k_dflt (refine' part_c (mu := (_, _) :: _) ?zzC ?zzF ?zzN ?zzhm ?zzhne ?zzR ?zzhv ?zzhkd ?_; (case zzF => k_asm); (case zzN => ktr_rel); (case zzC => tb_start); (case zzR => k_asm); (case zzhv => assumption); (case zzhm => k_all); (case zzhne => k_all); (case zzhkd => assumption); k_whole; intro zzhq zztkq zztq zzvq zzfzq zzFq zzNq zzGq zzDq; (have zzhG1 := Grow.neD zzGq (by k_all)); (have zzhG2 := Grow.neM zzGq (.head _) (by k_all)); (have zzhG3 := RdF.mono (by k_asm) (Grow.sub zzGq)); (have zzhG4 := zzhG3.hx); (try dsimp only [List.cons_append] at zzNq); (revert zzhq zztkq zztq zzvq zzfzq zzFq zzNq zzGq zzDq zzhG1 zzhG2 zzhG3 zzhG4; intro _ _ _ _ _ _ _ _ _ _ _ _ _); (try k_sweep))))
  (k_with "call ref!" => (k_here; (try dsimp only [List.nil_append, List.cons_append]); (with_reducible show wpAny _ _ (call (Value.ref 221) _ _) _ _ _); k_dflt (refine' alt_c ?zzC ?zzF ?zzN ?zzhm ?zzhne ?zzR ?zzhr ?zzhl (fun zzhq zztkq zztq zzvq zzfzq zzDq zzkq zzhSq zzFq zzNq zzGq zzIq zzLq => ?_) (fun zzeq zzdq zzgq zzhq zztkq zznq zzkq zzhSq zzRq zzAq zzSq zzGq zzUq => ?_); (case zzF => k_asm); (case zzN => ktr_rel); (case zzC => tb_start); (case zzR => k_asm); (case zzhm => k_all); (case zzhne => k_all); (case zzhr => exact rfl); (case zzhl => assumption); k_whole; (all_goals (try ((have zzhG1 := Grow.neD zzGq (by k_all)); (have zzhG3 := RdF.mono (by k_asm) (Grow.sub zzGq)); (have zzhG4 := zzhG3.hx); (try dsimp only [List.cons_append] at zzNq); (first | (revert zzeq zzdq zzgq zzhq zztkq zznq zzkq zzhSq zzRq zzAq zzSq zzGq zzUq zzhG1 zzhG3 zzhG4; intro _ _ _ _ _ _ _ _ _ _ _ _ _ _ _ _) | (revert zzeq zzdq zzgq zzhq zztkq zznq zzkq zzhSq zzRq zzAq zzSq zzGq zzUq zzhG1 zzhG3; intro _ _ _ _ _ _ _ _ _ _ _ _ _ _ _) | (revert zzeq zzdq zzgq zzhq zztkq zznq zzkq zzhSq zzRq zzAq zzSq zzGq zzUq zzhG1; intro _ _ _ _ _ _ _ _ _ _ _ _ _ _) | (revert zzeq zzdq zzgq zzhq zztkq zznq zzkq zzhSq zzRq zzAq zzSq zzGq zzUq; intro _ _ _ _ _ _ _ _ _ _ _ _ _) | (revert zzhq zztkq zztq zzvq zzfzq zzDq zzkq zzhSq zzFq zzNq zzGq zzIq zzLq zzhG1 zzhG3 zzhG4; intro _ _ _ _ _ _ _ _ _ _ _ _ _ _ _ _) | (revert zzhq zztkq zztq zzvq zzfzq zzDq zzkq zzhSq zzFq zzNq zzGq zzIq zzLq zzhG1 zzhG3; intro _ _ _ _ _ _ _ _ _ _ _ _ _ _ _) | (revert zzhq zztkq zztq zzvq zzfzq zzDq zzkq zzhSq zzFq zzNq zzGq zzIq zzLq zzhG1; intro _ _ _ _ _ _ _ _ _ _ _ _ _ _) | (revert zzhq zztkq zztq zzvq zzfzq zzDq zzkq zzhSq zzFq zzNq zzGq zzIq zzLq; intro _ _ _ _ _ _ _ _ _ _ _ _ _)); (try k_sweep))))); (all_goals (try (first | (revert zzeq zzdq zzgq zzhq zztkq zznq zzkq zzhSq zzRq zzAq zzSq zzGq zzUq zzhG1 zzhG3 zzhG4; intro _ _ _ _ _ _ _ _ _ _ _ _ _ _ _ _) | (revert zzeq zzdq zzgq zzhq zztkq zznq zzkq zzhSq zzRq zzAq zzSq zzGq zzUq zzhG1 zzhG3; intro _ _ _ _ _ _ _ _ _ _ _ _ _ _ _) | (revert zzeq zzdq zzgq zzhq zztkq zznq zzkq zzhSq zzRq zzAq zzSq zzGq zzUq zzhG1; intro _ _ _ _ _ _ _ _ _ _ _ _ _ _) | (revert zzeq zzdq zzgq zzhq zztkq zznq zzkq zzhSq zzRq zzAq zzSq zzGq zzUq; intro _ _ _ _ _ _ _ _ _ _ _ _ _) | (revert zzhq zztkq zztq zzvq zzfzq zzDq zzkq zzhSq zzFq zzNq zzGq zzIq zzLq zzhG1 zzhG3 zzhG4; intro _ _ _ _ _ _ _ _ _ _ _ _ _ _ _ _) | (revert zzhq zztkq zztq zzvq zzfzq zzDq zzkq zzhSq zzFq zzNq zzGq zzIq zzLq zzhG1 zzhG3; intro _ _ _ _ _ _ _ _ _ _ _ _ _ _ _) | (revert zzhq zztkq zztq zzvq zzfzq zzDq zzkq zzhSq zzFq zzNq zzGq zzIq zzLq zzhG1; intro _ _ _ _ _ _ _ _ _ _ _ _ _ _) | (revert zzhq zztkq zztq zzvq zzfzq zzDq zzkq zzhSq zzFq zzNq zzGq zzIq zzLq; intro _ _ _ _ _ _ _ _ _ _ _ _ _))))))
  (k_with "call ref!" => (k_here; (try dsimp only [List.nil_append, List.cons_append]); (with_reducible show wpAny _ _ (call (Value.ref 221) _ _) _ _ _); k_dflt (refine' alt_c (mu := (_, _) :: _) ?zzC ?zzF ?zzN ?zzhm ?zzhne ?zzR ?zzhr ?zzhl (fun zzhq zztkq zztq zzvq zzfzq zzDq zzkq zzhSq zzFq zzNq zzGq zzIq zzLq => ?_) (fun zzeq zzdq zzgq zzhq zztkq zznq zzkq zzhSq zzRq zzAq zzSq zzGq zzUq => ?_); (case zzF => k_asm); (case zzN => ktr_rel); (case zzC => tb_start); (case zzR => k_asm); (case zzhm => k_all); (case zzhne => k_all); (case zzhr => exact rfl); (case zzhl => assumption); k_whole; (all_goals (try ((have zzhG1 := Grow.neD zzGq (by k_all)); (have zzhG2 := Grow.neM zzGq (.head _) (by k_all)); (have zzhG3 := RdF.mono (by k_asm) (Grow.sub zzGq)); (have zzhG4 := zzhG3.hx); (try dsimp only [List.cons_append] at zzNq); (first | (revert zzeq zzdq zzgq zzhq zztkq zznq zzkq zzhSq zzRq zzAq zzSq zzGq zzUq zzhG1 zzhG2 zzhG3 zzhG4; intro _ _ _ _ _ _ _ _ _ _ _ _ _ _ _ _ _) | (revert zzeq zzdq zzgq zzhq zztkq zznq zzkq zzhSq zzRq zzAq zzSq zzGq zzUq zzhG1 zzhG2 zzhG3; intro _ _ _ _ _ _ _ _ _ _ _ _ _ _ _ _) | (revert zzeq zzdq zzgq zzhq zztkq zznq zzkq zzhSq zzRq zzAq zzSq zzGq zzUq zzhG1 zzhG2; intro _ _ _ _ _ _ _ _ _ _ _ _ _ _ _) | (revert zzeq zzdq zzgq zzhq zztkq zznq zzkq zzhSq zzRq zzAq zzSq zzGq zzUq zzhG1; intro _ _ _ _ _ _ _ _ _ _ _ _ _ _) | (revert zzeq zzdq zzgq zzhq zztkq zznq zzkq zzhSq zzRq zzAq zzSq zzGq zzUq; intro _ _ _ _ _ _ _ _ _ _ _ _ _) | (revert zzhq zztkq zztq zzvq zzfzq zzDq zzkq zzhSq zzFq zzNq zzGq zzIq zzLq zzhG1 zzhG2 zzhG3 zzhG4; intro _ _ _ _ _ _ _ _ _ _ _ _ _ _ _ _ _) | (revert zzhq zztkq zztq zzvq zzfzq zzDq zzkq zzhSq zzFq zzNq zzGq zzIq zzLq zzhG1 zzhG2 zzhG3; intro _ _ _ _ _ _ _ _ _ _ _ _ _ _ _ _) | (revert zzhq zztkq zztq zzvq zzfzq zzDq zzkq zzhSq zzFq zzNq zzGq zzIq zzLq zzhG1 zzhG2; intro _ _ _ _ _ _ _ _ _ _ _ _ _ _ _) | (revert zzhq zztkq zztq zzvq zzfzq zzDq zzkq zzhSq zzFq zzNq zzGq zzIq zzLq zzhG1; intro _ _ _ _ _ _ _ _ _ _ _ _ _ _) | (revert zzhq zztkq zztq zzvq zzfzq zzDq zzkq zzhSq zzFq zzNq zzGq zzIq zzLq; intro _ _ _ _ _ _ _ _ _ _ _ _ _)); (try k_sweep))))); (all_goals (try (first | (revert zzeq zzdq zzgq zzhq zztkq zznq zzkq zzhSq zzRq zzAq zzSq zzGq zzUq zzhG1 zzhG2 zzhG3 zzhG4; intro _ _ _ _ _ _ _ _ _ _ _ _ _ _ _ _ _) | (revert zzeq zzdq zzgq zzhq zztkq zznq zzkq zzhSq zzRq zzAq zzSq zzGq zzUq zzhG1 zzhG2 zzhG3; intro _ _ _ _ _ _ _ _ _ _ _ _ _ _ _ _) | (revert zzeq zzdq zzgq zzhq zztkq zznq zzkq zzhSq zzRq zzAq zzSq zzGq zzUq zzhG1 zzhG2; intro _ _ _ _ _ _ _ _ _ _ _ _ _ _ _) | (revert zzeq zzdq zzgq zzhq zztkq zznq zzkq zzhSq zzRq zzAq zzSq zzGq zzUq zzhG1; intro _ _ _ _ _ _ _ _ _ _ _ _ _ _) | (revert zzeq zzdq zzgq zzhq zztkq zznq zzkq zzhSq zzRq zzAq zzSq zzGq zzUq; intro _ _ _ _ _ _ _ _ _ _ _ _ _) | (revert zzhq zztkq zztq zzvq zzfzq zzDq zzkq zzhSq zzFq zzNq zzGq zzIq zzLq zzhG1 zzhG2 zzhG3 zzhG4; intro _ _ _ _ _ _ _ _ _ _ _ _ _ _ _ _ _) | (revert zzhq zztkq zztq zzvq zzfzq zzDq zzkq zzhSq zzFq zzNq zzGq zzIq zzLq zzhG1 zzhG2 zzhG3; intro _ _ _ _ _ _ _ _ _ _ _ _ _ _ _ _) | (revert zzhq zztkq zztq zzvq zzfzq zzDq zzkq zzhSq zzFq zzNq zzGq zzIq zzLq zzhG1 zzhG2; intro _ _ _ _ _ _ _ _ _ _ _ _ _ _ _) | (revert zzhq zztkq zztq zzvq zzfzq zzDq zzkq zzhSq zzFq zzNq zzGq zzIq zzLq zzhG1; intro _ _ _ _ _ _ _ _ _ _ _ _ _ _) | (revert zzhq zztkq zztq zzvq zzfzq zzDq zzkq zzhSq zzFq zzNq zzGq zzIq zzLq; intro _ _ _ _ _ _ _ _ _ _ _ _ _))))))
  (k_with "isTrue Compare!" => (k_here; (with_reducible show wpAny _ _ (isTrue (PySem.Expr.Compare (PySem.Expr.Call (PySem.Expr.Attribute (PySem.Expr.Name _ _) (Str.ofString "kind") _) [] [] _) [CmpOp.Eq] [PySem.Expr.Constant (PySem.Const.str _) _ _] _) _ _) _ _ _); k_dflt (refine' kind_eq ?zzC ?zzF ?zzN ?zzhf ?zzR ?zzhv ?zzhb ?zzhm ?zzhx ?zzhe ?_; (case zzhb => with_reducible assumption); (case zzF => k_asm); (case zzN => ktr_rel); (case zzC => tb_start); (case zzR => k_asm); (case zzhf => tb_rel); (case zzhv => assumption); (case zzhm => rfl); (case zzhx => rfl); (case zzhe => rfl); k_whole; intro _ _ _ _; (try k_sweep))))
  (k_with "isTrue Compare!" => (k_here; (with_reducible show wpAny _ _ (isTrue (PySem.Expr.Compare (PySem.Expr.Call (PySem.Expr.Attribute (PySem.Expr.Name _ _) (Str.ofString "kind") _) [] [] _) [CmpOp.NotEq] [PySem.Expr.Constant (PySem.Const.str _) _ _] _) _ _) _ _ _); k_dflt (refine' kind_ne ?zzC ?zzF ?zzN ?zzhf ?zzR ?zzhv ?zzhb ?zzhm ?zzhx ?zzhe ?_; (case zzhb => with_reducible assumption); (case zzF => k_asm); (case zzN => ktr_rel); (case zzC => tb_start); (case zzR => k_asm); (case zzhf => tb_rel); (case zzhv => assumption); (case zzhm => rfl); (case zzhx => rfl); (case zzhe => rfl); k_whole; intro _ _ _ _; (try k_sweep))))
  (k_with "isTrue Compare!" => (k_here; (with_reducible show wpAny _ _ (isTrue (PySem.Expr.Compare (PySem.Expr.Call (PySem.Expr.Attribute (PySem.Expr.Name _ _) (Str.ofString "kind") _) [] [] _) [CmpOp.In] [PySem.Expr.Name (Str.ofString "PART_WORDS") _] _) _ _) _ _ _); k_dflt (refine' kind_part ?zzC ?zzF ?zzN ?zzhf ?zzR ?zzhv ?zzhb ?zzhn ?zzhm ?zzhx ?zzhe ?_; (case zzhb => with_reducible assumption); (case zzF => k_asm); (case zzN => ktr_rel); (case zzC => tb_start); (case zzR => k_asm); (case zzhf => tb_rel); (case zzhv => assumption); (case zzhn => (intro _ _ _ _; walk1; with_reducible assumption)); (case zzhm => rfl); (case zzhx => rfl); (case zzhe => rfl); k_whole; intro _ _ _ _; (try k_sweep))))
  (k_with "isTrue Compare!" => (k_here; (with_reducible show wpAny _ _ (isTrue (PySem.Expr.Compare (PySem.Expr.Call (PySem.Expr.Attribute (PySem.Expr.Name _ _) (Str.ofString "kind") _) [] [] _) [CmpOp.In] [PySem.Expr.Name (Str.ofString "SYM_KINDS") _] _) _ _) _ _ _); k_dflt (refine' kind_sym ?zzC ?zzF ?zzN ?zzhf ?zzR ?zzhv ?zzhb ?zzhn ?zzhm ?zzhx ?zzhe ?_; (case zzhb => with_reducible assumption); (case zzF => k_asm); (case zzN => ktr_rel); (case zzC => tb_start); (case zzR => k_asm); (case zzhf => tb_rel); (case zzhv => assumption); (case zzhn => (intro _ _ _ _; walk1; with_reducible assumption)); (case zzhm => rfl); (case zzhx => rfl); (case zzhe => rfl); k_whole; intro _ _ _ _; (try k_sweep))))
  trivial
open PySem PySem.W PyProof.Rows PySem.Spec PySem.Calls
set_option maxRecDepth 100000
set_option maxHeartbeats 8000000
noncomputable def kindAt (toks : List Tk) (k : Nat) : Str := (toks[k]?).elim (S "") (·.1)
noncomputable def datAt (toks : List Tk) (k : Nat) : Dat := (toks[k]?).elim .none (·.2.2)
noncomputable def altsT (toks : List Tk) : Nat → Nat → List Dat → Res (List Dat)
  | 0, k, _ => .err k
  | f + 1, k, acc => match altS k [] (toks.drop k) with
    | .err e => .err e
    | .ok D k' => if kindAt toks k' = S "BAR" then altsT toks f (k' + 1) (acc ++ [D]) else .ok (acc ++ [D]) k'
noncomputable def contA (toks : List Tk) (f k : Nat) (acc : List Dat) : Res (List Dat) := if kindAt toks k = S "BAR" then altsT toks f (k + 1) acc else .ok acc k
noncomputable def semi (toks : List Tk) (k : Nat) : Nat := if kindAt toks k = S "SEMI" then k + 1 else k
noncomputable def ruleT (toks : List Tk) (f k : Nat) : Res Dat := match altsT toks f (k + 1) [] with
  | .err e => .err e
  | .ok as k' => .ok (.tuple [datAt toks k, .list as]) (semi toks k')
theorem kindAt_of {toks : List Tk} {k : Nat} {t : Tk} (h : toks[k]? = some t) : kindAt toks k = t.1 := by rw [kindAt, h]; rfl
theorem datAt_of {toks : List Tk} {k : Nat} {t : Tk} (h : toks[k]? = some t) : datAt toks k = t.2.2 := by rw [datAt, h]; rfl
theorem altTail_le {k : Nat} {acc : List Dat} : ∀ {r : List Tk} {D : Dat} {k' : Nat}, altTail k acc r = .ok D k' → k ≤ k'
  | [], _, _, h => by cases h
  | t :: r, D, k', h => by
    by_cases hp : t.1 = S "PREC"
    · match r, h with
      | [], h => simp only [altTail, if_pos hp] at h; cases h
      | [u], h =>
        simp only [altTail, if_pos hp] at h
        by_cases hn : isNL u.1 = true
        · rw [if_pos hn] at h; cases h
        · rw [if_neg hn] at h; cases h
      | u :: v :: r, h =>
        rw [altTail_p hp] at h
        by_cases hn : isNL u.1 = true
        · rw [if_pos hn] at h
          by_cases ha : v.1 = S "ACTION"
          · rw [if_pos ha] at h; cases h; omega
          · rw [if_neg ha] at h; cases h; omega
        · rw [if_neg hn] at h; cases h
    · rw [altTail_np hp] at h; cases h; exact Nat.le_refl _
theorem altS_le : ∀ {r : List Tk} {k : Nat} {acc : List Dat} {D : Dat} {k' : Nat}, altS k acc r = .ok D k' → k ≤ k'
  | [], _, _, _, _, h => by cases h
  | t :: r, k, acc, D, k', h => by
    unfold altS at h
    split at h
    · have := altS_le h; omega
    · exact altTail_le h
theorem altsT_err {toks : List Tk} {f k e : Nat} {acc : List Dat} (h : altS k [] (toks.drop k) = .err e) : altsT toks (f + 1) k acc = .err e := by
  rw [altsT, h]
theorem altsT_ok {toks : List Tk} {f k k' : Nat} {D : Dat} {acc : List Dat} (h : altS k [] (toks.drop k) = .ok D k') : altsT toks (f + 1) k acc = contA toks f k' (acc ++ [D]) := by
  rw [altsT, h]; rfl
theorem andAllE3 {a q : Addr} {mu fz : List (Addr × Obj)} (h : a < q ∧ AllLt q (mu ++ fz)) : ∃ pl, pl = q ∧ a < pl ∧ (∀ p ∈ mu, p.1 < pl) ∧ ∀ p ∈ fz, p.1 < pl := andAllE h
theorem live_get {toks : List Tk} {k : Nat} (h : Live (toks.drop k)) : ∃ t r, toks.drop k = t :: r ∧ toks[k]? = some t := by
  cases e : toks.drop k with
  | nil => exact absurd e h.ne
  | cons t r => exact ⟨t, r, rfl, drop_get e⟩
theorem live_next {toks : List Tk} {k : Nat} {t : Tk} (h : Live (toks.drop k)) (hv : toks[k]? = some t) (hk : t.1 ≠ S "$end") : Live (toks.drop (k + 1)) := by
  obtain ⟨t', r, e, hv'⟩ := live_get h
  rw [hv] at hv'
  cases hv'
  rw [e] at h
  rw [drop_next e]
  exact h.tail hk
section
variable {w : World} {mean : ExcName → Option Value} {mg mb : Str → Option Value} {dp un : Nat} {gd : Option (List Code)} {cn : Str} {cs : Scope} {a : Addr} {ccd : Value} {cl : List (Str × Addr)} {outer : List Env} {A₀ : Around} {base h₀ : Heap} {L : Addr} {m : Str → Option Value} {s : Shared} {Q E : Value → Shared → Prop}
  {fz mu r : List (Addr × Obj)} {x dx tl : Addr} {ha hb : Int} {ta tb : Tok} {toks rest : List Tk} {k f : Nat} {tk : Tok} {kd : Str} {wv : Value} {d : Dat}
theorem rule_c (C : Cx w mean mg mb dp un cs A₀ base outer h₀ 10) (F : Fr h₀ L s.heap m) (N : News h₀ L s.heap ((dx, rdObj ha hb ta tb tl k tk) :: (mu ++ fz))) (hm : ∀ p ∈ mu, p.1 ≠ dx) (hne : ∀ p ∈ fz, p.1 ≠ dx) (R : RdF fz x dx tl toks) (hv : toks[k]? = some (kd, wv, d)) (hkd : kd ≠ S "$end") (hlive : Live (toks.drop k)) (hf : toks.length ≤ k + f)
  (ret : ∀ h' tk' t' v fz' D k', ruleT toks f k = .ok D k' → Fr h₀ L h' m → News h₀ L h' ((dx, rdObj ha hb ta tb tl k' t') :: (mu ++ fz')) → Grow dx mu fz fz' → DatIn fz' v D → Live (toks.drop k') → Q v { s with heap := h', toks := tk' })
  (exc : ∀ e d g₂ h' tk' news' k', ruleT toks f k = .err k' → RaisedX base (envX cn cs L a ccd cl :: outer) e d news' h' → ErrAt news' d (7 * (k' : Int)) → (∀ p ∈ mu ++ fz, p ∈ news') → Fr h₀ L g₂ m → g₂.UpToSlots h' → E (.ref e) { s with heap := h', toks := tk' }) :
  wpAny (model PG w) (ktrTop dp un gd cn cs L a ccd cl outer) (call (.ref 214) [.ref x]) Q E s := by
  obtain ⟨B, X, T, hk, hd, hu⟩ := C
  have hMk := kstMark
  have hx := R.hx
  have hw : handedIn wv = true := (R.dat _ (List.mem_of_getElem? hv)).1.handed
  have hL1 := live_next hlive hv hkd
  refine wpAny_call ?_
  k_dflt ktr_enter
  have hkl := (List.getElem?_eq_some_iff.mp hv).1
  obtain ⟨f, rfl⟩ : ∃ g, f = g + 1 := ⟨f - 1, by omega⟩
  (repeat' ((fail_if_success (with_reducible show wpAny _ _ (exec (Stmt.While _ _ _ _) _) _ _ _)); first | (k_unfold; (try dsimp only)) | (k_end; kc_close) | walk1 | (dsimp only; walk1) | (leave1; walk_say "STEP leave1"; (try dsimp only)) | (refine useX (by with_reducible assumption) ?_; (try ((fail_if_success (with_reducible show WStep _ _ _ _ _ _ _ Flow.next _)); dsimp only [WStep]))) | fail "no step"))
  rotate_left
  · refine exc _ _ _ _ _ _ _ ?_ (by assumption) (by assumption) (by assumption) (by assumption) (by assumption)
    rw [ruleT, altsT_err (by assumption)]
  · obtain ⟨pl, hpl, l1, l2, l3⟩ := andAllE (by assumption)
    subst hpl
    refine while_const (fun n nw => ∃ j acc vsp np t' fzj, nw = (dx, rdObj ha hb ta tb tl j t') :: (pl, W.listOf (List.toArray vsp) np) :: (mu ++ fzj) ∧ Live (toks.drop j) ∧ contA toks n j acc = altsT toks (f + 1) (k + 1) [] ∧ toks.length ≤ j + n ∧ DatAll fzj vsp acc ∧ Grow dx mu fz fzj ∧ (∀ p ∈ fzj, p.1 ≠ pl) ∧ vsp.length ≤ j ∧ k + 1 ≤ j) f (by assumption) (by ktr_rel)
      ⟨_, _, [_], _, _, _, rfl, by assumption, (altsT_ok (by assumption)).symm, ?_, .one (by assumption), by assumption, fun p hp => Nat.ne_of_lt (l3 p hp), ?_, altS_le (by assumption)⟩ ?_
    · have := altS_le (show altS (k + 1) [] (List.drop (k + 1) toks) = _ by assumption)
      omega
    · have := altS_le (show altS (k + 1) [] (List.drop (k + 1) toks) = _ by assumption)
      simp only [List.length_cons, List.length_nil]
      omega
    have l3' : ∀ p ∈ fz, p.1 < pl := fun p hp => l3 p (Grow.sub (by assumption) p hp)
    clear l3
    rintro n nw h1 tk1 F1 N1 ⟨j, acc, vsp, np, t1, fzj, rfl, hL, hS, hfj, hA, hG, hpl, hlen, hkj⟩
    refine abs_while fun W9 hW9 => ?_
    have R1 := R.mono hG.sub
    have hx1 := R1.hx
    have hne1 := hG.neD hne
    have hpm : ∀ p ∈ mu, p.1 ≠ pl := fun p hp => Nat.ne_of_lt (l2 p hp)
    obtain ⟨⟨k1, w1, d1⟩, r1, hj, hv1⟩ := live_get hL
    have hjl := (List.getElem?_eq_some_iff.mp hv1).1
    have hj9 : j < 900 := by
      have := R.len
      omega
    cases hb : (k1 == S "BAR") with
    | false =>
      have hS1 : altsT toks (f + 1) (k + 1) [] = .ok acc j := by rw [← hS, contA, kindAt_of hv1, if_neg (beq_eq_false_iff_ne.mp hb)]
      have hq0 : ∀ j', semi toks j = j' → ruleT toks (f + 1) k = .ok (.tuple [d, .list acc]) j' := fun j' e => by rw [ruleT, hS1]; show Res.ok _ _ = _; rw [e, datAt_of hv]
      have hd1 : DatIn fzj wv d := (R1.dat _ (List.mem_of_getElem? hv)).1
      cases hs : (k1 == S "SEMI") with
      | false =>
        have hq1 := hq0 j (by rw [semi, kindAt_of hv1, if_neg (beq_eq_false_iff_ne.mp hs)])
        (repeat' ((fail_if_success (with_reducible show wpAny _ _ (exec (Stmt.While _ _ _ _) _) _ _ _)); first | (k_unfold; (try dsimp only)) | (k_end; kc_close) | walk1 | (dsimp only; walk1) | (leave1; walk_say "STEP leave1"; (try dsimp only)) | (refine useX (by with_reducible assumption) ?_; (try ((fail_if_success (with_reducible show WStep _ _ _ _ _ _ _ Flow.next _)); dsimp only [WStep]))) | fail "no step"))
        obtain ⟨tp, htp, u1, u2, u3⟩ := andAllE2 (by assumption)
        subst htp
        exact ret _ _ _ _ _ _ _ hq1 (by assumption) (news_two (by assumption)) (Grow.two hG ⟨l1, l2, l3'⟩ ⟨u1, u2, u3⟩) (DatIn.tuple (.head _) (.cons (hd1.mono fun p h => mem_tl (mem_tl h)) (.cons (DatIn.list (.tail _ (.head _)) (hA.mono fun p h => mem_tl (mem_tl h))) .nil))) hL
      | true =>
        have hs' := beq_iff_eq.mp hs
        have hq1 := hq0 (j + 1) (by rw [semi, kindAt_of hv1, if_pos hs'])
        have hL2 := live_next hL hv1 (by subst hs'; show S "SEMI" ≠ S "$end"; decide)
        have hw1 : handedIn w1 = true := (R1.dat _ (List.mem_of_getElem? hv1)).1.handed
        (repeat' ((fail_if_success (with_reducible show wpAny _ _ (exec (Stmt.While _ _ _ _) _) _ _ _)); first | (k_unfold; (try dsimp only)) | (k_end; kc_close) | walk1 | (dsimp only; walk1) | (leave1; walk_say "STEP leave1"; (try dsimp only)) | (refine useX (by with_reducible assumption) ?_; (try ((fail_if_success (with_reducible show WStep _ _ _ _ _ _ _ Flow.next _)); dsimp only [WStep]))) | fail "no step"))
        obtain ⟨tp, htp, u1, u2, u3⟩ := andAllE2 (by assumption)
        subst htp
        exact ret _ _ _ _ _ _ _ hq1 (by assumption) (news_two (by assumption)) (Grow.two hG ⟨l1, l2, l3'⟩ ⟨u1, u2, u3⟩) (DatIn.tuple (.head _) (.cons (hd1.mono fun p h => mem_tl (mem_tl h)) (.cons (DatIn.list (.tail _ (.head _)) (hA.mono fun p h => mem_tl (mem_tl h))) .nil))) hL2
    | true =>
      have hb' := beq_iff_eq.mp hb
      obtain ⟨n, rfl⟩ : ∃ g, n = g + 1 := ⟨n - 1, by omega⟩
      have hS1 : altsT toks (n + 1) (j + 1) acc = altsT toks (f + 1) (k + 1) [] := by rw [← hS, contA, kindAt_of hv1, if_pos hb']
      have hL2 := live_next hL hv1 (by subst hb'; show S "BAR" ≠ S "$end"; decide)
      have hw1 : handedIn w1 = true := (R1.dat _ (List.mem_of_getElem? hv1)).1.handed
      (repeat' ((fail_if_success (with_reducible show wpAny _ _ (exec (Stmt.While _ _ _ _) _) _ _ _)); first | (k_unfold; (try dsimp only)) | (k_end; kc_close) | walk1 | (dsimp only; walk1) | (leave1; walk_say "STEP leave1"; (try dsimp only)) | (refine useX (by with_reducible assumption) ?_; (try ((fail_if_success (with_reducible show WStep _ _ _ _ _ _ _ Flow.next _)); dsimp only [WStep]))) | fail "no step"))
      · have h1 := altS_le (show altS (j + 1) [] (List.drop (j + 1) toks) = _ by assumption)
        refine WStep.next _ _ _ n (by assumption) (by assumption) (by omega) ⟨_, _, _, _, _, _, led_push, by assumption, (altsT_ok (by assumption)).symm.trans hS1, by omega, (hA.mono (Grow.sub (by assumption))).append (.one (by assumption)), hG.trans (Grow.less (by assumption) fun p h => mem_tl h), by assumption, ?_, by omega⟩
        simp only [List.length_append, List.length_cons, List.length_nil]; omega
      · refine exc _ _ _ _ _ _ _ ?_ (by assumption) (by assumption) ?_ (by assumption) (by assumption)
        · rw [ruleT, ← hS1, altsT_err (by assumption)]
        · exact subNews (by assumption) hG.sub
end
end

section
theorem start_De : True := by
  w_top off
  k_with_none
  (k_with "k_room!" => (((try simp only [depth_under_make, depth_under_kw, depth_in1, depth_deeper, depth_caller]); (try dsimp only [ktrTop]); omega)))
  (k_with "ktr_room!" => (((try simp only [depth_under_make, depth_under_kw, depth_in1, depth_deeper, depth_caller]); (try dsimp only [ktrTop]); omega)))
  (k_with "ktr_units!" => (((try simp only [units_in1, units_deeper, Around.mark_units, units_caller]); (try dsimp only [ktrTop]); omega)))
  (k_with "ktr_rel!" => (first | k_asm | exact rot1 (by k_asm) | exact rot2 (by k_asm) | exact rot3 (by k_asm)))
  (k_with "tb_rel!" => (first | k_asm | exact fun _ h => h | (intro p hp; k_mem)))
  (k_with "size_fits!" => (((try simp only [List.size_toArray, List.length_append, List.length_cons, List.length_nil, PySem.sizeLine_eq]); omega)))
  (k_with "call ref!" => (k_here; (try dsimp only [List.nil_append, List.cons_append]); (with_reducible show wpAny _ _ (call (Value.ref 179) _ _) _ _ _); k_dflt (refine' kind_c ?zzC ?zzF ?zzN ?zzhf ?zzR ?zzhv ?_; (case zzF => k_asm); (case zzN => ktr_rel); (case zzC => tb_start); (case zzR => k_asm); (case zzhf => tb_rel); (case zzhv => assumption); k_whole; intro _ _ _ _ _; (try k_sweep))))
  (k_with "call ref!" => (k_here; (try dsimp only [List.nil_append, List.cons_append]); (with_reducible show wpAny _ _ (call (Value.ref 186) _ _) _ _ _); k_dflt (refine' take_c ?zzC ?zzF ?zzN ?zzhne ?zzhf ?zzR ?zzhv ?_; (case zzF => k_asm); (case zzN => ktr_rel); (case zzC => tb_start); (case zzR => k_asm); (case zzhf => tb_rel); (case zzhv => assumption); (case zzhne => k_all); k_whole; intro _ _ _ _ _; (try k_sweep))))
  (k_with "call ref!" => (k_here; (try dsimp only [List.nil_append, List.cons_append]); (with_reducible show wpAny _ _ (call (Value.ref 193) _ _) _ _ _); k_dflt (refine' refuse_c ?zzC ?zzF ?zzN ?zzhf ?zzR ?zzhv ?_; (case zzF => k_asm); (case zzN => ktr_rel); (case zzC => tb_start); (case zzR => k_asm); (case zzhf => tb_rel); (case zzhv => assumption); k_whole; intro _ _ _ _ _ _ _ _ _ _ _)))
  (k_with "compareOp In str ref!" => (k_here; (with_reducible show wpAny _ _ (compareOp CmpOp.In (Value.str _ _) (Value.ref 127)) _ _ _); k_dflt (refine' in_part ?zzF ?zzX ?zzT ?zzN ?zzb ?_; (case zzF => k_asm); (case zzX => k_asm); (case zzT => k_asm); (case zzN => exact News.nil); (case zzb => assumption); k_whole)))
  (k_with "compareOp In str ref!" => (k_here; (with_reducible show wpAny _ _ (compareOp CmpOp.In (Value.str _ _) (Value.ref 126)) _ _ _); k_dflt (refine' in_sym ?zzF ?zzX ?zzu ?zzb ?_; (case zzF => k_asm); (case zzX => k_asm); (case zzu => ktr_units); (case zzb => assumption); k_whole; intro _)))
  (k_with "compareOp Eq str str!" => (k_here; (with_reducible show wpAny _ _ (compareOp CmpOp.Eq (Value.str _ _) (Value.str _ _)) _ _ _); k_dflt (refine' eq_strB ?zzb ?_; (case zzb => with_reducible assumption); k_whole)))
  (k_with "compareOp NotEq str str!" => (k_here; (with_reducible show wpAny _ _ (compareOp CmpOp.NotEq (Value.str _ _) (Value.str _ _)) _ _ _); k_dflt (refine' ne_strB ?zzb ?_; (case zzb => with_reducible assumption); k_whole)))
  (k_with "leaving ref!" => (k_here; k_dflt (refine' leave_onX ?zzk1 ?zzk2 ?zzk3 ?zzk4 ?_; (case zzk3 => assumption); (case zzk1 => assumption); (case zzk4 => assumption); (case zzk2 => assumption); k_whole; intro zzhq zzRq zzUq; (try dsimp only at zzRq zzUq ⊢); (revert zzhq zzRq zzUq; intro _ _ _))))
  (k_with "call ref!" => (k_here; (try dsimp only [List.nil_append, List.cons_append]); (with_reducible show wpAny _ _ (call (Value.ref 228) _ _) _ _ _); k_dflt (refine' part_c (mu := (_, _) :: _) ?zzC ?zzF ?zzN ?zzhm ?zzhne ?zzR ?zzhv ?zzhkd ?_; (case zzF => k_asm); (case zzN => ktr_rel); (case zzC => tb_start); (case zzR => k_asm); (case zzhv => assumption); (case zzhm => k_all); (case zzhne => k_all); (case zzhkd => assumption); k_whole; intro zzhq zztkq zztq zzvq zzfzq zzFq zzNq zzGq zzDq; (have zzhG1 := Grow.neD zzGq (by k_all)); (have zzhG2 := Grow.neM zzGq (.head _) (by k_all)); (have zzhG3 := RdF.mono (by k_asm) (Grow.sub zzGq)); (have zzhG4 := zzhG3.hx); (try dsimp only [List.cons_append] at zzNq); (revert zzhq zztkq zztq zzvq zzfzq zzFq zzNq zzGq zzDq zzhG1 zzhG2 zzhG3 zzhG4; intro _ _ _ _ _ _ _ _ _ _ _ _ _); (try k_sweep))))
  (k_with "call builtin:len!" => (k_here; (with_reducible show wpAny _ _ (call (Value.builtin "len") [Value.ref _]) _ _ _); k_dflt (refine' kst_len ?zzk1 ?zzk2 ?zzk3 ?zzk4 ?_; (case zzk1 => k_asm); (case zzk2 => k_mem); (case zzk3 => exact rfl); (case zzk4 => first | omega | ((try simp only [List.length_cons, List.length_nil, List.length_append]); omega)); k_whole)))
  (k_with "compareOp Eq int int!" => (k_here; (with_reducible show wpAny _ _ (compareOp CmpOp.Eq (Value.int _ _) (Value.int _ _)) _ _ _); k_dflt (refine' eq_intF ?zza ?_; (case zza => omega))))
  (k_with "isTrue Compare!" => (k_here; (with_reducible show wpAny _ _ (isTrue (PySem.Expr.Compare (PySem.Expr.Call (PySem.Expr.Attribute (PySem.Expr.Name _ _) (Str.ofString "kind") _) [] [] _) [CmpOp.Eq] [PySem.Expr.Constant (PySem.Const.str _) _ _] _) _ _) _ _ _); k_dflt (refine' kind_eq ?zzC ?zzF ?zzN ?zzhf ?zzR ?zzhv ?zzhb ?zzhm ?zzhx ?zzhe ?_; (case zzhb => with_reducible assumption); (case zzF => k_asm); (case zzN => ktr_rel); (case zzC => tb_start); (case zzR => k_asm); (case zzhf => tb_rel); (case zzhv => assumption); (case zzhm => rfl); (case zzhx => rfl); (case zzhe => rfl); k_whole; intro _ _ _ _; (try k_sweep))))
  (k_with "isTrue Compare!" => (k_here; (with_reducible show wpAny _ _ (isTrue (PySem.Expr.Compare (PySem.Expr.Call (PySem.Expr.Attribute (PySem.Expr.Name _ _) (Str.ofString "kind") _) [] [] _) [CmpOp.NotEq] [PySem.Expr.Constant (PySem.Const.str _) _ _] _) _ _) _ _ _); k_dflt (refine' kind_ne ?zzC ?zzF ?zzN ?zzhf ?zzR ?zzhv ?zzhb ?zzhm ?zzhx ?zzhe ?_; (case zzhb => with_reducible assumption); (case zzF => k_asm); (case zzN => ktr_rel); (case zzC => tb_start); (case zzR => k_asm); (case zzhf => tb_rel); (case zzhv => assumption); (case zzhm => rfl); (case zzhx => rfl); (case zzhe => rfl); k_whole; intro _ _ _ _; (try k_sweep))))
  (k_with "isTrue Compare!" => (k_here; (with_reducible show wpAny _ _ (isTrue (PySem.Expr.Compare (PySem.Expr.Call (PySem.Expr.Attribute (PySem.Expr.Name _ _) (Str.ofString "kind") _) [] [] _) [CmpOp.In] [PySem.Expr.Name (Str.ofString "PART_WORDS") _] _) _ _) _ _ _); k_dflt (refine' kind_part ?zzC ?zzF ?zzN ?zzhf ?zzR ?zzhv ?zzhb ?zzhn ?zzhm ?zzhx ?zzhe ?_; (case zzhb => with_reducible assumption); (case zzF => k_asm); (case zzN => ktr_rel); (case zzC => tb_start); (case zzR => k_asm); (case zzhf => tb_rel); (case zzhv => assumption); (case zzhn => (intro _ _ _ _; walk1; with_reducible assumption)); (case zzhm => rfl); (case zzhx => rfl); (case zzhe => rfl); k_whole; intro _ _ _ _; (try k_sweep))))
  (k_with "isTrue Compare!" => (k_here; (with_reducible show wpAny _ _ (isTrue (PySem.Expr.Compare (PySem.Expr.Call (PySem.Expr.Attribute (PySem.Expr.Name _ _) (Str.ofString "kind") _) [] [] _) [CmpOp.In] [PySem.Expr.Name (Str.ofString "SYM_KINDS") _] _) _ _) _ _ _); k_dflt (refine' kind_sym ?zzC ?zzF ?zzN ?zzhf ?zzR ?zzhv ?zzhb ?zzhn ?zzhm ?zzhx ?zzhe ?_; (case zzhb => with_reducible assumption); (case zzF => k_asm); (case zzN => ktr_rel); (case zzC => tb_start); (case zzR => k_asm); (case zzhf => tb_rel); (case zzhv => assumption); (case zzhn => (intro _ _ _ _; walk1; with_reducible assumption)); (case zzhm => rfl); (case zzhx => rfl); (case zzhe => rfl); k_whole; intro _ _ _ _; (try k_sweep))))
  trivial
open PySem PySem.W PyProof.Rows PySem.Spec PySem.Calls
set_option maxRecDepth 100000
set_option maxHeartbeats 8000000
noncomputable def itemsS (k : Nat) (acc : List Dat) : List Tk → List Dat × Nat
  | [] => (acc, k)
  | t :: r => if isSym t.1 = true then itemsS (k + 1) (acc ++ [t.2.2]) r else (acc, k)
noncomputable def declE (d : Dat) : List Dat × Nat → Res Dat
  | ([], k') => .err k'
  | (i :: is, k') => .ok (.tuple [d, .list (i :: is)]) k'
noncomputable def declT (toks : List Tk) (k : Nat) : Res Dat := declE (datAt toks k) (itemsS (k + 1) [] (toks.drop (k + 1)))
theorem isSym_or {kd : Str} (h : isSym kd = true) : kd = S "NAME" ∨ kd = S "LITERAL" ∨ kd = S "NUMBER" := by
  unfold isSym at h
  simpa using h
theorem isSym_ne {kd : Str} (h : isSym kd = true) : kd ≠ S "$end" := by
  rcases isSym_or h with h | h | h <;> (subst h; decide)
section
variable {w : World} {mean : ExcName → Option Value} {mg mb : Str → Option Value} {dp un : Nat} {gd : Option (List Code)} {cn : Str} {cs : Scope} {a : Addr} {ccd : Value} {cl : List (Str × Addr)} {outer : List Env} {A₀ : Around} {base h₀ : Heap} {L : Addr} {m : Str → Option Value} {s : Shared} {Q E : Value → Shared → Prop}
  {fz mu r : List (Addr × Obj)} {x dx tl : Addr} {ha hb : Int} {ta tb : Tok} {toks rest : List Tk} {k f : Nat} {tk : Tok} {kd : Str} {wv : Value} {d : Dat}
theorem decl_c (C : Cx w mean mg mb dp un cs A₀ base outer h₀ 10) (F : Fr h₀ L s.heap m) (N : News h₀ L s.heap ((dx, rdObj ha hb ta tb tl k tk) :: (mu ++ fz))) (hm : ∀ p ∈ mu, p.1 ≠ dx) (hne : ∀ p ∈ fz, p.1 ≠ dx) (R : RdF fz x dx tl toks) (hv : toks[k]? = some (kd, wv, d)) (hkd : kd ≠ S "$end") (hlive : Live (toks.drop k))
  (ret : ∀ h' tk' t' v fz' D k', declT toks k = .ok D k' → Fr h₀ L h' m → News h₀ L h' ((dx, rdObj ha hb ta tb tl k' t') :: (mu ++ fz')) → Grow dx mu fz fz' → DatIn fz' v D → Live (toks.drop k') → Q v { s with heap := h', toks := tk' })
  (exc : ∀ e d g₂ h' tk' news' k', declT toks k = .err k' → RaisedX base (envX cn cs L a ccd cl :: outer) e d news' h' → ErrAt news' d (7 * (k' : Int)) → (∀ p ∈ mu ++ fz, p ∈ news') → Fr h₀ L g₂ m → g₂.UpToSlots h' → E (.ref e) { s with heap := h', toks := tk' }) :
  wpAny (model PG w) (ktrTop dp un gd cn cs L a ccd cl outer) (call (.ref 207) [.ref x]) Q E s := by
  obtain ⟨B, X, T, hk, hd, hu⟩ := C
  have hMk := kstMark
  have hx := R.hx
  have hw : handedIn wv = true := (R.dat _ (List.mem_of_getElem? hv)).1.handed
  have hL1 := live_next hlive hv hkd
  refine wpAny_call ?_
  k_dflt ktr_enter
  (repeat' ((fail_if_success (with_reducible show wpAny _ _ (exec (Stmt.While _ _ _ _) _) _ _ _)); first | (k_unfold; (try dsimp only)) | (k_end; kc_close) | walk1 | (dsimp only; walk1) | (leave1; walk_say "STEP leave1"; (try dsimp only)) | (refine useX (by with_reducible assumption) ?_; (try ((fail_if_success (with_reducible show WStep _ _ _ _ _ _ _ Flow.next _)); dsimp only [WStep]))) | fail "no step"))
  obtain ⟨pl, hpl, l1, l2, l3⟩ := andAllE (by assumption)
  subst hpl
  refine while_const (fun n nw => ∃ j acc vsp np t' rj, nw = (dx, rdObj ha hb ta tb tl j t') :: (pl, W.listOf (List.toArray vsp) np) :: (mu ++ fz) ∧ toks.drop j = rj ∧ n = rj.length ∧ Live rj ∧ itemsS j acc rj = itemsS (k + 1) [] (toks.drop (k + 1)) ∧ DatAll fz vsp acc ∧ vsp.length ≤ j) _ (by assumption) (by ktr_rel) ⟨_, [], [], _, _, _, rfl, rfl, rfl, hL1, rfl, .nil, Nat.zero_le _⟩ ?_
  rintro n nw h1 tk1 F1 N1 ⟨j, acc, vsp, np, t1, rj, rfl, hj, rfl, hL, hS, hA, hlen⟩
  refine abs_while fun W9 hW9 => ?_
  have hpm : ∀ p ∈ mu, p.1 ≠ pl := fun p hp => Nat.ne_of_lt (l2 p hp)
  have hpl : ∀ p ∈ fz, p.1 ≠ pl := fun p hp => Nat.ne_of_lt (l3 p hp)
  cases rj with
  | nil => exact absurd rfl hL.ne
  | cons t r1 =>
    obtain ⟨k1, w1, d1⟩ := t
    have hv1 := drop_get hj
    have hj9 : j < 900 := by
      have := (List.getElem?_eq_some_iff.mp hv1).1
      have := R.len
      omega
    have hd1 := (R.dat _ (List.mem_of_getElem? hv1)).1
    have hw1 : handedIn w1 = true := hd1.handed
    cases hp : isSym k1 with
    | false =>
      have hS0 : itemsS (k + 1) [] (toks.drop (k + 1)) = (acc, j) := by rw [← hS, itemsS, if_neg (by rw [hp]; decide)]
      have hd0 : DatIn fz wv d := (R.dat _ (List.mem_of_getElem? hv)).1
      have hlv := hA.length
      cases acc with
      | nil =>
        have hT : declT toks k = .err j := by rw [declT, hS0]; rfl
        obtain rfl : vsp = [] := List.length_eq_zero_iff.mp hlv
        (repeat' ((fail_if_success (with_reducible show wpAny _ _ (exec (Stmt.While _ _ _ _) _) _ _ _)); first | (k_unfold; (try dsimp only)) | (k_end; kc_close) | walk1 | (dsimp only; walk1) | (leave1; walk_say "STEP leave1"; (try dsimp only)) | (refine useX (by with_reducible assumption) ?_; (try ((fail_if_success (with_reducible show WStep _ _ _ _ _ _ _ Flow.next _)); dsimp only [WStep]))) | fail "no step"))
        exact exc _ _ _ _ _ _ _ hT (by assumption) (by assumption) (subNews (by assumption) fun _ h => h) (by assumption) (by assumption)
      | cons i is =>
        have hT : declT toks k = .ok (.tuple [d, .list (i :: is)]) j := by rw [declT, hS0, datAt_of hv]; rfl
        have hpos : 0 < vsp.length := by rw [hlv]; simp
        (repeat' ((fail_if_success (with_reducible show wpAny _ _ (exec (Stmt.While _ _ _ _) _) _ _ _)); first | (k_unfold; (try dsimp only)) | (k_end; kc_close) | walk1 | (dsimp only; walk1) | (leave1; walk_say "STEP leave1"; (try dsimp only)) | (refine useX (by with_reducible assumption) ?_; (try ((fail_if_success (with_reducible show WStep _ _ _ _ _ _ _ Flow.next _)); dsimp only [WStep]))) | fail "no step"))
        obtain ⟨tp, htp, u1, u2, u3⟩ := andAllE2 (by assumption)
        subst htp
        exact ret _ _ _ _ _ _ _ hT (by assumption) (news_two (by assumption)) (Grow.two .refl ⟨l1, l2, l3⟩ ⟨u1, u2, u3⟩) (DatIn.tuple (.head _) (.cons (hd0.mono fun p h => mem_tl (mem_tl h)) (.cons (DatIn.list (.tail _ (.head _)) (hA.mono fun p h => mem_tl (mem_tl h))) .nil))) (hj ▸ hL)
    | true =>
      (repeat' ((fail_if_success (with_reducible show wpAny _ _ (exec (Stmt.While _ _ _ _) _) _ _ _)); first | (k_unfold; (try dsimp only)) | (k_end; kc_close) | walk1 | (dsimp only; walk1) | (leave1; walk_say "STEP leave1"; (try dsimp only)) | (refine useX (by with_reducible assumption) ?_; (try ((fail_if_success (with_reducible show WStep _ _ _ _ _ _ _ Flow.next _)); dsimp only [WStep]))) | fail "no step"))
      refine WStep.next _ _ _ r1.length (by assumption) (by assumption) (by simp) ⟨_, _, _, _, _, _, led_push, drop_next hj, rfl, hL.tail (isSym_ne hp), ?_, hA.append (.one hd1), ?_⟩
      · rw [← hS, itemsS, if_pos hp]
      · simp only [List.length_append, List.length_cons, List.length_nil]; omega
end
end

section
theorem start_Fi : True := by
  w_top off
  k_with_none
  (k_with "k_room!" => (((try simp only [depth_under_make, depth_under_kw, depth_in1, depth_deeper, depth_caller]); (try dsimp only [ktrTop]); omega)))
  (k_with "ktr_room!" => (((try simp only [depth_under_make, depth_under_kw, depth_in1, depth_deeper, depth_caller]); (try dsimp only [ktrTop]); omega)))
  (k_with "ktr_units!" => (((try simp only [units_in1, units_deeper, Around.mark_units, units_caller]); (try dsimp only [ktrTop]); omega)))
  (k_with "ktr_rel!" => (first | k_asm | exact rot1 (by k_asm) | exact rot2 (by k_asm) | exact rot3 (by k_asm)))
  (k_with "tb_rel!" => (first | k_asm | exact fun _ h => h | (intro p hp; k_mem)))
  (k_with "size_fits!" => (((try simp only [List.size_toArray, List.length_append, List.length_cons, List.length_nil, PySem.sizeLine_eq]); omega)))
  (k_with "call ref!" => (k_here; (try dsimp only [List.nil_append, List.cons_append]); (with_reducible show wpAny _ _ (call (Value.ref 179) _ _) _ _ _); k_dflt (refine' kind_c ?zzC ?zzF ?zzN ?zzhf ?zzR ?zzhv ?_; (case zzF => k_asm); (case zzN => ktr_rel); (case zzC => tb_start); (case zzR => k_asm); (case zzhf => tb_rel); (case zzhv => assumption); k_whole; intro _ _ _ _ _; (try k_sweep))))
  (k_with "call ref!" => (k_here; (try dsimp only [List.nil_append, List.cons_append]); (with_reducible show wpAny _ _ (call (Value.ref 186) _ _) _ _ _); k_dflt (refine' take_c ?zzC ?zzF ?zzN ?zzhne ?zzhf ?zzR ?zzhv ?_; (case zzF => k_asm); (case zzN => ktr_rel); (case zzC => tb_start); (case zzR => k_asm); (case zzhf => tb_rel); (case zzhv => assumption); (case zzhne => k_all); k_whole; intro _ _ _ _ _; (try k_sweep))))
  (k_with "call ref!" => (k_here; (try dsimp only [List.nil_append, List.cons_append]); (with_reducible show wpAny _ _ (call (Value.ref 193) _ _) _ _ _); k_dflt (refine' refuse_c ?zzC ?zzF ?zzN ?zzhf ?zzR ?zzhv ?_; (case zzF => k_asm); (case zzN => ktr_rel); (case zzC => tb_start); (case zzR => k_asm); (case zzhf => tb_rel); (case zzhv => assumption); k_whole; intro _ _ _ _ _ _ _ _ _ _ _)))
  (k_with "compareOp In str ref!" => (k_here; (with_reducible show wpAny _ _ (compareOp CmpOp.In (Value.str _ _) (Value.ref 127)) _ _ _); k_dflt (refine' in_part ?zzF ?zzX ?zzT ?zzN ?zzb ?_; (case zzF => k_asm); (case zzX => k_asm); (case zzT => k_asm); (case zzN => exact News.nil); (case zzb => assumption); k_whole)))
  (k_with "compareOp In str ref!" => (k_here; (with_reducible show wpAny _ _ (compareOp CmpOp.In (Value.str _ _) (Value.ref 126)) _ _ _); k_dflt (refine' in_sym ?zzF ?zzX ?zzu ?zzb ?_; (case zzF => k_asm); (case zzX => k_asm); (case zzu => ktr_units); (case zzb => assumption); k_whole; intro _)))
  (k_with "compareOp Eq str str!" => (k_here; (with_reducible show wpAny _ _ (compareOp CmpOp.Eq (Value.str _ _) (Value.str _ _)) _ _ _); k_dflt (refine' eq_strB ?zzb ?_; (case zzb => with_reducible assumption); k_whole)))
  (k_with "compareOp NotEq str str!" => (k_here; (with_reducible show wpAny _ _ (compareOp CmpOp.NotEq (Value.str _ _) (Value.str _ _)) _ _ _); k_dflt (refine' ne_strB ?zzb ?_; (case zzb => with_reducible assumption); k_whole)))
  (k_with "leaving ref!" => (k_here; k_dflt (refine' leave_onX ?zzk1 ?zzk2 ?zzk3 ?zzk4 ?_; (case zzk3 => assumption); (case zzk1 => assumption); (case zzk4 => assumption); (case zzk2 => assumption); k_whole; intro zzhq zzRq zzUq; (try dsimp only at zzRq zzUq ⊢); (revert zzhq zzRq zzUq; intro _ _ _))))
  (k_with "call ref!" => (k_here; (try dsimp only [List.nil_append, List.cons_append]); (with_reducible show wpAny _ _ (call (Value.ref 228) _ _) _ _ _); k_dflt (refine' part_c (mu := (_, _) :: _) ?zzC ?zzF ?zzN ?zzhm ?zzhne ?zzR ?zzhv ?zzhkd ?_; (case zzF => k_asm); (case zzN => ktr_rel); (case zzC => tb_start); (case zzR => k_asm); (case zzhv => assumption); (case zzhm => k_all); (case zzhne => k_all); (case zzhkd => assumption); k_whole; intro zzhq zztkq zztq zzvq zzfzq zzFq zzNq zzGq zzDq; (have zzhG1 := Grow.neD zzGq (by k_all)); (have zzhG2 := Grow.neM zzGq (.head _) (by k_all)); (have zzhG3 := RdF.mono (by k_asm) (Grow.sub zzGq)); (have zzhG4 := zzhG3.hx); (try dsimp only [List.cons_append] at zzNq); (revert zzhq zztkq zztq zzvq zzfzq zzFq zzNq zzGq zzDq zzhG1 zzhG2 zzhG3 zzhG4; intro _ _ _ _ _ _ _ _ _ _ _ _ _); (try k_sweep))))
  (k_with "call ref!" => (k_here; (try dsimp only [List.nil_append, List.cons_append]); (with_reducible show wpAny _ _ (call (Value.ref 214) _ _) _ _ _); k_dflt (refine' rule_c ?zzC ?zzF ?zzN ?zzhm ?zzhne ?zzR ?zzhv ?zzhkd ?zzhl ?zzhf (fun zzhq zztkq zztq zzvq zzfzq zzDq zzkq zzhSq zzFq zzNq zzGq zzIq zzLq => ?_) (fun zzeq zzdq zzgq zzhq zztkq zznq zzkq zzhSq zzRq zzAq zzSq zzGq zzUq => ?_); (case zzF => k_asm); (case zzN => ktr_rel); (case zzC => tb_start); (case zzR => k_asm); (case zzhm => k_all); (case zzhne => k_all); (case zzhv => assumption); (case zzhkd => assumption); (case zzhl => assumption); (case zzhf => exact Nat.le_add_left _ _); k_whole; (all_goals (try ((have zzhG1 := Grow.neD zzGq (by k_all)); (have zzhG3 := RdF.mono (by k_asm) (Grow.sub zzGq)); (have zzhG4 := zzhG3.hx); (try dsimp only [List.cons_append] at zzNq); (first | (revert zzeq zzdq zzgq zzhq zztkq zznq zzkq zzhSq zzRq zzAq zzSq zzGq zzUq zzhG1 zzhG3 zzhG4; intro _ _ _ _ _ _ _ _ _ _ _ _ _ _ _ _) | (revert zzeq zzdq zzgq zzhq zztkq zznq zzkq zzhSq zzRq zzAq zzSq zzGq zzUq zzhG1 zzhG3; intro _ _ _ _ _ _ _ _ _ _ _ _ _ _ _) | (revert zzeq zzdq zzgq zzhq zztkq zznq zzkq zzhSq zzRq zzAq zzSq zzGq zzUq zzhG1; intro _ _ _ _ _ _ _ _ _ _ _ _ _ _) | (revert zzeq zzdq zzgq zzhq zztkq zznq zzkq zzhSq zzRq zzAq zzSq zzGq zzUq; intro _ _ _ _ _ _ _ _ _ _ _ _ _) | (revert zzhq zztkq zztq zzvq zzfzq zzDq zzkq zzhSq zzFq zzNq zzGq zzIq zzLq zzhG1 zzhG3 zzhG4; intro _ _ _ _ _ _ _ _ _ _ _ _ _ _ _ _) | (revert zzhq zztkq zztq zzvq zzfzq zzDq zzkq zzhSq zzFq zzNq zzGq zzIq zzLq zzhG1 zzhG3; intro _ _ _ _ _ _ _ _ _ _ _ _ _ _ _) | (revert zzhq zztkq zztq zzvq zzfzq zzDq zzkq zzhSq zzFq zzNq zzGq zzIq zzLq zzhG1; intro _ _ _ _ _ _ _ _ _ _ _ _ _ _) | (revert zzhq zztkq zztq zzvq zzfzq zzDq zzkq zzhSq zzFq zzNq zzGq zzIq zzLq; intro _ _ _ _ _ _ _ _ _ _ _ _ _)); (try k_sweep))))); (all_goals (try (first | (revert zzeq zzdq zzgq zzhq zztkq zznq zzkq zzhSq zzRq zzAq zzSq zzGq zzUq zzhG1 zzhG3 zzhG4; intro _ _ _ _ _ _ _ _ _ _ _ _ _ _ _ _) | (revert zzeq zzdq zzgq zzhq zztkq zznq zzkq zzhSq zzRq zzAq zzSq zzGq zzUq zzhG1 zzhG3; intro _ _ _ _ _ _ _ _ _ _ _ _ _ _ _) | (revert zzeq zzdq zzgq zzhq zztkq zznq zzkq zzhSq zzRq zzAq zzSq zzGq zzUq zzhG1; intro _ _ _ _ _ _ _ _ _ _ _ _ _ _) | (revert zzeq zzdq zzgq zzhq zztkq zznq zzkq zzhSq zzRq zzAq zzSq zzGq zzUq; intro _ _ _ _ _ _ _ _ _ _ _ _ _) | (revert zzhq zztkq zztq zzvq zzfzq zzDq zzkq zzhSq zzFq zzNq zzGq zzIq zzLq zzhG1 zzhG3 zzhG4; intro _ _ _ _ _ _ _ _ _ _ _ _ _ _ _ _) | (revert zzhq zztkq zztq zzvq zzfzq zzDq zzkq zzhSq zzFq zzNq zzGq zzIq zzLq zzhG1 zzhG3; intro _ _ _ _ _ _ _ _ _ _ _ _ _ _ _) | (revert zzhq zztkq zztq zzvq zzfzq zzDq zzkq zzhSq zzFq zzNq zzGq zzIq zzLq zzhG1; intro _ _ _ _ _ _ _ _ _ _ _ _ _ _) | (revert zzhq zztkq zztq zzvq zzfzq zzDq zzkq zzhSq zzFq zzNq zzGq zzIq zzLq; intro _ _ _ _ _ _ _ _ _ _ _ _ _))))))
  (k_with "call ref!" => (k_here; (try dsimp only [List.nil_append, List.cons_append]); (with_reducible show wpAny _ _ (call (Value.ref 207) _ _) _ _ _); k_dflt (refine' decl_c ?zzC ?zzF ?zzN ?zzhm ?zzhne ?zzR ?zzhv ?zzhkd ?zzhl (fun zzhq zztkq zztq zzvq zzfzq zzDq zzkq zzhSq zzFq zzNq zzGq zzIq zzLq => ?_) (fun zzeq zzdq zzgq zzhq zztkq zznq zzkq zzhSq zzRq zzAq zzSq zzGq zzUq => ?_); (case zzF => k_asm); (case zzN => ktr_rel); (case zzC => tb_start); (case zzR => k_asm); (case zzhm => k_all); (case zzhne => k_all); (case zzhv => assumption); (case zzhkd => assumption); (case zzhl => assumption); k_whole; (all_goals (try ((have zzhG1 := Grow.neD zzGq (by k_all)); (have zzhG3 := RdF.mono (by k_asm) (Grow.sub zzGq)); (have zzhG4 := zzhG3.hx); (try dsimp only [List.cons_append] at zzNq); (first | (revert zzeq zzdq zzgq zzhq zztkq zznq zzkq zzhSq zzRq zzAq zzSq zzGq zzUq zzhG1 zzhG3 zzhG4; intro _ _ _ _ _ _ _ _ _ _ _ _ _ _ _ _) | (revert zzeq zzdq zzgq zzhq zztkq zznq zzkq zzhSq zzRq zzAq zzSq zzGq zzUq zzhG1 zzhG3; intro _ _ _ _ _ _ _ _ _ _ _ _ _ _ _) | (revert zzeq zzdq zzgq zzhq zztkq zznq zzkq zzhSq zzRq zzAq zzSq zzGq zzUq zzhG1; intro _ _ _ _ _ _ _ _ _ _ _ _ _ _) | (revert zzeq zzdq zzgq zzhq zztkq zznq zzkq zzhSq zzRq zzAq zzSq zzGq zzUq; intro _ _ _ _ _ _ _ _ _ _ _ _ _) | (revert zzhq zztkq zztq zzvq zzfzq zzDq zzkq zzhSq zzFq zzNq zzGq zzIq zzLq zzhG1 zzhG3 zzhG4; intro _ _ _ _ _ _ _ _ _ _ _ _ _ _ _ _) | (revert zzhq zztkq zztq zzvq zzfzq zzDq zzkq zzhSq zzFq zzNq zzGq zzIq zzLq zzhG1 zzhG3; intro _ _ _ _ _ _ _ _ _ _ _ _ _ _ _) | (revert zzhq zztkq zztq zzvq zzfzq zzDq zzkq zzhSq zzFq zzNq zzGq zzIq zzLq zzhG1; intro _ _ _ _ _ _ _ _ _ _ _ _ _ _) | (revert zzhq zztkq zztq zzvq zzfzq zzDq zzkq zzhSq zzFq zzNq zzGq zzIq zzLq; intro _ _ _ _ _ _ _ _ _ _ _ _ _)); (try k_sweep))))); (all_goals (try (first | (revert zzeq zzdq zzgq zzhq zztkq zznq zzkq zzhSq zzRq zzAq zzSq zzGq zzUq zzhG1 zzhG3 zzhG4; intro _ _ _ _ _ _ _ _ _ _ _ _ _ _ _ _) | (revert zzeq zzdq zzgq zzhq zztkq zznq zzkq zzhSq zzRq zzAq zzSq zzGq zzUq zzhG1 zzhG3; intro _ _ _ _ _ _ _ _ _ _ _ _ _ _ _) | (revert zzeq zzdq zzgq zzhq zztkq zznq zzkq zzhSq zzRq zzAq zzSq zzGq zzUq zzhG1; intro _ _ _ _ _ _ _ _ _ _ _ _ _ _) | (revert zzeq zzdq zzgq zzhq zztkq zznq zzkq zzhSq zzRq zzAq zzSq zzGq zzUq; intro _ _ _ _ _ _ _ _ _ _ _ _ _) | (revert zzhq zztkq zztq zzvq zzfzq zzDq zzkq zzhSq zzFq zzNq zzGq zzIq zzLq zzhG1 zzhG3 zzhG4; intro _ _ _ _ _ _ _ _ _ _ _ _ _ _ _ _) | (revert zzhq zztkq zztq zzvq zzfzq zzDq zzkq zzhSq zzFq zzNq zzGq zzIq zzLq zzhG1 zzhG3; intro _ _ _ _ _ _ _ _ _ _ _ _ _ _ _) | (revert zzhq zztkq zztq zzvq zzfzq zzDq zzkq zzhSq zzFq zzNq zzGq zzIq zzLq zzhG1; intro _ _ _ _ _ _ _ _ _ _ _ _ _ _) | (revert zzhq zztkq zztq zzvq zzfzq zzDq zzkq zzhSq zzFq zzNq zzGq zzIq zzLq; intro _ _ _ _ _ _ _ _ _ _ _ _ _))))))
  (k_with "call ref!" => (k_here; (try dsimp only [List.nil_append, List.cons_append]); (with_reducible show wpAny _ _ (call (Value.ref 214) _ _) _ _ _); k_dflt (refine' rule_c (mu := (_, _) :: _) ?zzC ?zzF ?zzN ?zzhm ?zzhne ?zzR ?zzhv ?zzhkd ?zzhl ?zzhf (fun zzhq zztkq zztq zzvq zzfzq zzDq zzkq zzhSq zzFq zzNq zzGq zzIq zzLq => ?_) (fun zzeq zzdq zzgq zzhq zztkq zznq zzkq zzhSq zzRq zzAq zzSq zzGq zzUq => ?_); (case zzF => k_asm); (case zzN => ktr_rel); (case zzC => tb_start); (case zzR => k_asm); (case zzhm => k_all); (case zzhne => k_all); (case zzhv => assumption); (case zzhkd => assumption); (case zzhl => assumption); (case zzhf => exact Nat.le_add_left _ _); k_whole; (all_goals (try ((have zzhG1 := Grow.neD zzGq (by k_all)); (have zzhG2 := Grow.neM zzGq (.head _) (by k_all)); (have zzhG3 := RdF.mono (by k_asm) (Grow.sub zzGq)); (have zzhG4 := zzhG3.hx); (try dsimp only [List.cons_append] at zzNq); (first | (revert zzeq zzdq zzgq zzhq zztkq zznq zzkq zzhSq zzRq zzAq zzSq zzGq zzUq zzhG1 zzhG2 zzhG3 zzhG4; intro _ _ _ _ _ _ _ _ _ _ _ _ _ _ _ _ _) | (revert zzeq zzdq zzgq zzhq zztkq zznq zzkq zzhSq zzRq zzAq zzSq zzGq zzUq zzhG1 zzhG2 zzhG3; intro _ _ _ _ _ _ _ _ _ _ _ _ _ _ _ _) | (revert zzeq zzdq zzgq zzhq zztkq zznq zzkq zzhSq zzRq zzAq zzSq zzGq zzUq zzhG1 zzhG2; intro _ _ _ _ _ _ _ _ _ _ _ _ _ _ _) | (revert zzeq zzdq zzgq zzhq zztkq zznq zzkq zzhSq zzRq zzAq zzSq zzGq zzUq zzhG1; intro _ _ _ _ _ _ _ _ _ _ _ _ _ _) | (revert zzeq zzdq zzgq zzhq zztkq zznq zzkq zzhSq zzRq zzAq zzSq zzGq zzUq; intro _ _ _ _ _ _ _ _ _ _ _ _ _) | (revert zzhq zztkq zztq zzvq zzfzq zzDq zzkq zzhSq zzFq zzNq zzGq zzIq zzLq zzhG1 zzhG2 zzhG3 zzhG4; intro _ _ _ _ _ _ _ _ _ _ _ _ _ _ _ _ _) | (revert zzhq zztkq zztq zzvq zzfzq zzDq zzkq zzhSq zzFq zzNq zzGq zzIq zzLq zzhG1 zzhG2 zzhG3; intro _ _ _ _ _ _ _ _ _ _ _ _ _ _ _ _) | (revert zzhq zztkq zztq zzvq zzfzq zzDq zzkq zzhSq zzFq zzNq zzGq zzIq zzLq zzhG1 zzhG2; intro _ _ _ _ _ _ _ _ _ _ _ _ _ _ _) | (revert zzhq zztkq zztq zzvq zzfzq zzDq zzkq zzhSq zzFq zzNq zzGq zzIq zzLq zzhG1; intro _ _ _ _ _ _ _ _ _ _ _ _ _ _) | (revert zzhq zztkq zztq zzvq zzfzq zzDq zzkq zzhSq zzFq zzNq zzGq zzIq zzLq; intro _ _ _ _ _ _ _ _ _ _ _ _ _)); (try k_sweep))))); (all_goals (try (first | (revert zzeq zzdq zzgq zzhq zztkq zznq zzkq zzhSq zzRq zzAq zzSq zzGq zzUq zzhG1 zzhG2 zzhG3 zzhG4; intro _ _ _ _ _ _ _ _ _ _ _ _ _ _ _ _ _) | (revert zzeq zzdq zzgq zzhq zztkq zznq zzkq zzhSq zzRq zzAq zzSq zzGq zzUq zzhG1 zzhG2 zzhG3; intro _ _ _ _ _ _ _ _ _ _ _ _ _ _ _ _) | (revert zzeq zzdq zzgq zzhq zztkq zznq zzkq zzhSq zzRq zzAq zzSq zzGq zzUq zzhG1 zzhG2; intro _ _ _ _ _ _ _ _ _ _ _ _ _ _ _) | (revert zzeq zzdq zzgq zzhq zztkq zznq zzkq zzhSq zzRq zzAq zzSq zzGq zzUq zzhG1; intro _ _ _ _ _ _ _ _ _ _ _ _ _ _) | (revert zzeq zzdq zzgq zzhq zztkq zznq zzkq zzhSq zzRq zzAq zzSq zzGq zzUq; intro _ _ _ _ _ _ _ _ _ _ _ _ _) | (revert zzhq zztkq zztq zzvq zzfzq zzDq zzkq zzhSq zzFq zzNq zzGq zzIq zzLq zzhG1 zzhG2 zzhG3 zzhG4; intro _ _ _ _ _ _ _ _ _ _ _ _ _ _ _ _ _) | (revert zzhq zztkq zztq zzvq zzfzq zzDq zzkq zzhSq zzFq zzNq zzGq zzIq zzLq zzhG1 zzhG2 zzhG3; intro _ _ _ _ _ _ _ _ _ _ _ _ _ _ _ _) | (revert zzhq zztkq zztq zzvq zzfzq zzDq zzkq zzhSq zzFq zzNq zzGq zzIq zzLq zzhG1 zzhG2; intro _ _ _ _ _ _ _ _ _ _ _ _ _ _ _) | (revert zzhq zztkq zztq zzvq zzfzq zzDq zzkq zzhSq zzFq zzNq zzGq zzIq zzLq zzhG1; intro _ _ _ _ _ _ _ _ _ _ _ _ _ _) | (revert zzhq zztkq zztq zzvq zzfzq zzDq zzkq zzhSq zzFq zzNq zzGq zzIq zzLq; intro _ _ _ _ _ _ _ _ _ _ _ _ _))))))
  (k_with "call ref!" => (k_here; (try dsimp only [List.nil_append, List.cons_append]); (with_reducible show wpAny _ _ (call (Value.ref 207) _ _) _ _ _); k_dflt (refine' decl_c (mu := (_, _) :: _) ?zzC ?zzF ?zzN ?zzhm ?zzhne ?zzR ?zzhv ?zzhkd ?zzhl (fun zzhq zztkq zztq zzvq zzfzq zzDq zzkq zzhSq zzFq zzNq zzGq zzIq zzLq => ?_) (fun zzeq zzdq zzgq zzhq zztkq zznq zzkq zzhSq zzRq zzAq zzSq zzGq zzUq => ?_); (case zzF => k_asm); (case zzN => ktr_rel); (case zzC => tb_start); (case zzR => k_asm); (case zzhm => k_all); (case zzhne => k_all); (case zzhv => assumption); (case zzhkd => assumption); (case zzhl => assumption); k_whole; (all_goals (try ((have zzhG1 := Grow.neD zzGq (by k_all)); (have zzhG2 := Grow.neM zzGq (.head _) (by k_all)); (have zzhG3 := RdF.mono (by k_asm) (Grow.sub zzGq)); (have zzhG4 := zzhG3.hx); (try dsimp only [List.cons_append] at zzNq); (first | (revert zzeq zzdq zzgq zzhq zztkq zznq zzkq zzhSq zzRq zzAq zzSq zzGq zzUq zzhG1 zzhG2 zzhG3 zzhG4; intro _ _ _ _ _ _ _ _ _ _ _ _ _ _ _ _ _) | (revert zzeq zzdq zzgq zzhq zztkq zznq zzkq zzhSq zzRq zzAq zzSq zzGq zzUq zzhG1 zzhG2 zzhG3; intro _ _ _ _ _ _ _ _ _ _ _ _ _ _ _ _) | (revert zzeq zzdq zzgq zzhq zztkq zznq zzkq zzhSq zzRq zzAq zzSq zzGq zzUq zzhG1 zzhG2; intro _ _ _ _ _ _ _ _ _ _ _ _ _ _ _) | (revert zzeq zzdq zzgq zzhq zztkq zznq zzkq zzhSq zzRq zzAq zzSq zzGq zzUq zzhG1; intro _ _ _ _ _ _ _ _ _ _ _ _ _ _) | (revert zzeq zzdq zzgq zzhq zztkq zznq zzkq zzhSq zzRq zzAq zzSq zzGq zzUq; intro _ _ _ _ _ _ _ _ _ _ _ _ _) | (revert zzhq zztkq zztq zzvq zzfzq zzDq zzkq zzhSq zzFq zzNq zzGq zzIq zzLq zzhG1 zzhG2 zzhG3 zzhG4; intro _ _ _ _ _ _ _ _ _ _ _ _ _ _ _ _ _) | (revert zzhq zztkq zztq zzvq zzfzq zzDq zzkq zzhSq zzFq zzNq zzGq zzIq zzLq zzhG1 zzhG2 zzhG3; intro _ _ _ _ _ _ _ _ _ _ _ _ _ _ _ _) | (revert zzhq zztkq zztq zzvq zzfzq zzDq zzkq zzhSq zzFq zzNq zzGq zzIq zzLq zzhG1 zzhG2; intro _ _ _ _ _ _ _ _ _ _ _ _ _ _ _) | (revert zzhq zztkq zztq zzvq zzfzq zzDq zzkq zzhSq zzFq zzNq zzGq zzIq zzLq zzhG1; intro _ _ _ _ _ _ _ _ _ _ _ _ _ _) | (revert zzhq zztkq zztq zzvq zzfzq zzDq zzkq zzhSq zzFq zzNq zzGq zzIq zzLq; intro _ _ _ _ _ _ _ _ _ _ _ _ _)); (try k_sweep))))); (all_goals (try (first | (revert zzeq zzdq zzgq zzhq zztkq zznq zzkq zzhSq zzRq zzAq zzSq zzGq zzUq zzhG1 zzhG2 zzhG3 zzhG4; intro _ _ _ _ _ _ _ _ _ _ _ _ _ _ _ _ _) | (revert zzeq zzdq zzgq zzhq zztkq zznq zzkq zzhSq zzRq zzAq zzSq zzGq zzUq zzhG1 zzhG2 zzhG3; intro _ _ _ _ _ _ _ _ _ _ _ _ _ _ _ _) | (revert zzeq zzdq zzgq zzhq zztkq zznq zzkq zzhSq zzRq zzAq zzSq zzGq zzUq zzhG1 zzhG2; intro _ _ _ _ _ _ _ _ _ _ _ _ _ _ _) | (revert zzeq zzdq zzgq zzhq zztkq zznq zzkq zzhSq zzRq zzAq zzSq zzGq zzUq zzhG1; intro _ _ _ _ _ _ _ _ _ _ _ _ _ _) | (revert zzeq zzdq zzgq zzhq zztkq zznq zzkq zzhSq zzRq zzAq zzSq zzGq zzUq; intro _ _ _ _ _ _ _ _ _ _ _ _ _) | (revert zzhq zztkq zztq zzvq zzfzq zzDq zzkq zzhSq zzFq zzNq zzGq zzIq zzLq zzhG1 zzhG2 zzhG3 zzhG4; intro _ _ _ _ _ _ _ _ _ _ _ _ _ _ _ _ _) | (revert zzhq zztkq zztq zzvq zzfzq zzDq zzkq zzhSq zzFq zzNq zzGq zzIq zzLq zzhG1 zzhG2 zzhG3; intro _ _ _ _ _ _ _ _ _ _ _ _ _ _ _ _) | (revert zzhq zztkq zztq zzvq zzfzq zzDq zzkq zzhSq zzFq zzNq zzGq zzIq zzLq zzhG1 zzhG2; intro _ _ _ _ _ _ _ _ _ _ _ _ _ _ _) | (revert zzhq zztkq zztq zzvq zzfzq zzDq zzkq zzhSq zzFq zzNq zzGq zzIq zzLq zzhG1; intro _ _ _ _ _ _ _ _ _ _ _ _ _ _) | (revert zzhq zztkq zztq zzvq zzfzq zzDq zzkq zzhSq zzFq zzNq zzGq zzIq zzLq; intro _ _ _ _ _ _ _ _ _ _ _ _ _))))))
  (k_with "call builtin:len!" => (k_here; (with_reducible show wpAny _ _ (call (Value.builtin "len") [Value.ref _]) _ _ _); k_dflt (refine' kst_len ?zzk1 ?zzk2 ?zzk3 ?zzk4 ?_; (case zzk1 => k_asm); (case zzk2 => k_mem); (case zzk3 => exact rfl); (case zzk4 => first | omega | ((try simp only [List.length_cons, List.length_nil, List.length_append]); omega)); k_whole)))
  (k_with "compareOp Eq int int!" => (k_here; (with_reducible show wpAny _ _ (compareOp CmpOp.Eq (Value.int _ _) (Value.int _ _)) _ _ _); k_dflt (refine' eq_intF ?zza ?_; (case zza => omega))))
  (k_with "isTrue Compare!" => (k_here; (with_reducible show wpAny _ _ (isTrue (PySem.Expr.Compare (PySem.Expr.Call (PySem.Expr.Attribute (PySem.Expr.Name _ _) (Str.ofString "kind") _) [] [] _) [CmpOp.Eq] [PySem.Expr.Constant (PySem.Const.str _) _ _] _) _ _) _ _ _); k_dflt (refine' kind_eq ?zzC ?zzF ?zzN ?zzhf ?zzR ?zzhv ?zzhb ?zzhm ?zzhx ?zzhe ?_; (case zzhb => with_reducible assumption); (case zzF => k_asm); (case zzN => ktr_rel); (case zzC => tb_start); (case zzR => k_asm); (case zzhf => tb_rel); (case zzhv => assumption); (case zzhm => rfl); (case zzhx => rfl); (case zzhe => rfl); k_whole; intro _ _ _ _; (try k_sweep))))
  (k_with "isTrue Compare!" => (k_here; (with_reducible show wpAny _ _ (isTrue (PySem.Expr.Compare (PySem.Expr.Call (PySem.Expr.Attribute (PySem.Expr.Name _ _) (Str.ofString "kind") _) [] [] _) [CmpOp.NotEq] [PySem.Expr.Constant (PySem.Const.str _) _ _] _) _ _) _ _ _); k_dflt (refine' kind_ne ?zzC ?zzF ?zzN ?zzhf ?zzR ?zzhv ?zzhb ?zzhm ?zzhx ?zzhe ?_; (case zzhb => with_reducible assumption); (case zzF => k_asm); (case zzN => ktr_rel); (case zzC => tb_start); (case zzR => k_asm); (case zzhf => tb_rel); (case zzhv => assumption); (case zzhm => rfl); (case zzhx => rfl); (case zzhe => rfl); k_whole; intro _ _ _ _; (try k_sweep))))
  (k_with "isTrue Compare!" => (k_here; (with_reducible show wpAny _ _ (isTrue (PySem.Expr.Compare (PySem.Expr.Call (PySem.Expr.Attribute (PySem.Expr.Name _ _) (Str.ofString "kind") _) [] [] _) [CmpOp.In] [PySem.Expr.Name (Str.ofString "PART_WORDS") _] _) _ _) _ _ _); k_dflt (refine' kind_part ?zzC ?zzF ?zzN ?zzhf ?zzR ?zzhv ?zzhb ?zzhn ?zzhm ?zzhx ?zzhe ?_; (case zzhb => with_reducible assumption); (case zzF => k_asm); (case zzN => ktr_rel); (case zzC => tb_start); (case zzR => k_asm); (case zzhf => tb_rel); (case zzhv => assumption); (case zzhn => (intro _ _ _ _; walk1; with_reducible assumption)); (case zzhm => rfl); (case zzhx => rfl); (case zzhe => rfl); k_whole; intro _ _ _ _; (try k_sweep))))
  (k_with "isTrue Compare!" => (k_here; (with_reducible show wpAny _ _ (isTrue (PySem.Expr.Compare (PySem.Expr.Call (PySem.Expr.Attribute (PySem.Expr.Name _ _) (Str.ofString "kind") _) [] [] _) [CmpOp.In] [PySem.Expr.Name (Str.ofString "SYM_KINDS") _] _) _ _) _ _ _); k_dflt (refine' kind_sym ?zzC ?zzF ?zzN ?zzhf ?zzR ?zzhv ?zzhb ?zzhn ?zzhm ?zzhx ?zzhe ?_; (case zzhb => with_reducible assumption); (case zzF => k_asm); (case zzN => ktr_rel); (case zzC => tb_start); (case zzR => k_asm); (case zzhf => tb_rel); (case zzhv => assumption); (case zzhn => (intro _ _ _ _; walk1; with_reducible assumption)); (case zzhm => rfl); (case zzhx => rfl); (case zzhe => rfl); k_whole; intro _ _ _ _; (try k_sweep))))
  trivial
open PySem PySem.W PyProof.Rows PySem.Spec PySem.Calls
set_option maxRecDepth 100000
set_option maxHeartbeats 8000000
noncomputable def declsT (toks : List Tk) : Nat → Nat → List Dat → Res (List Dat)
  | 0, k, _ => .err k
  | f + 1, k, acc => if kindAt toks k = S "KIND" then (match declT toks k with
      | .err e => .err e
      | .ok D k' => declsT toks f k' (acc ++ [D])) else .ok acc k
noncomputable def rulesT (toks : List Tk) : Nat → Nat → List Dat → Res (List Dat)
  | 0, k, _ => .err k
  | f + 1, k, acc => if kindAt toks k = S "HEAD" then (match ruleT toks toks.length k with
      | .err e => .err e
      | .ok D k' => rulesT toks f k' (acc ++ [D])) else .ok acc k
noncomputable def mark (toks : List Tk) (k : Nat) : Nat := if kindAt toks k = S "MARK" then k + 1 else k
noncomputable def fileEnd (toks : List Tk) (ds : List Dat) : Res (List Dat) → Res (List Dat × List Dat)
  | .err e => .err e
  | .ok [] k => .err k
  | .ok (r :: rs) k => if kindAt toks (mark toks k) = S "$end" then .ok (ds, r :: rs) (mark toks k) else .err (mark toks k)
noncomputable def fileMid (toks : List Tk) : Res (List Dat) → Res (List Dat × List Dat)
  | .err e => .err e
  | .ok ds k => if kindAt toks k = S "MARK" then fileEnd toks ds (rulesT toks (toks.length + 1) (k + 1) []) else .err k
noncomputable def fileT (toks : List Tk) : Res (List Dat × List Dat) := fileMid toks (declsT toks (toks.length + 1) 0 [])
noncomputable def TreeIn (fz : List (Addr × Obj)) (v : Value) (ds rs : List Dat) : Prop :=
  ∃ (xt dxt dl rl : Addr) (h1 h2 : Int) (q1 q2 : Tok), v = .ref xt ∧ (xt, instObj 149 dxt) ∈ fz ∧ (dxt, dictOf [⟨h1, .str (S "decls") q1, .ref dl⟩, ⟨h2, .str (S "rules") q2, .ref rl⟩] 2) ∈ fz ∧ DatIn fz (.ref dl) (.list ds) ∧ DatIn fz (.ref rl) (.list rs)
theorem declsT_ok {toks : List Tk} {f k k' : Nat} {acc : List Dat} {D : Dat} (h : kindAt toks k = S "KIND") (e : declT toks k = .ok D k') : declsT toks (f + 1) k acc = declsT toks f k' (acc ++ [D]) := by rw [declsT, if_pos h, e]
theorem declsT_err {toks : List Tk} {f k k' : Nat} {acc : List Dat} (h : kindAt toks k = S "KIND") (e : declT toks k = .err k') : declsT toks (f + 1) k acc = .err k' := by rw [declsT, if_pos h, e]
theorem rulesT_ok {toks : List Tk} {f k k' : Nat} {acc : List Dat} {D : Dat} (h : kindAt toks k = S "HEAD") (e : ruleT toks toks.length k = .ok D k') : rulesT toks (f + 1) k acc = rulesT toks f k' (acc ++ [D]) := by rw [rulesT, if_pos h, e]
theorem rulesT_err {toks : List Tk} {f k k' : Nat} {acc : List Dat} (h : kindAt toks k = S "HEAD") (e : ruleT toks toks.length k = .err k') : rulesT toks (f + 1) k acc = .err k' := by rw [rulesT, if_pos h, e]
theorem andAllE4 {a b q : Addr} {mu fz : List (Addr × Obj)} (h : a < q ∧ b < q ∧ AllLt q (mu ++ fz)) : ∃ pl, pl = q ∧ a < pl ∧ b < pl ∧ (∀ p ∈ mu, p.1 < pl) ∧ ∀ p ∈ fz, p.1 < pl :=
  ⟨q, rfl, h.1, h.2.1, (andAll ⟨h.1, h.2.2⟩).2⟩
theorem news_rl {h₀ h : Heap} {L : Addr} {a b c : Addr × Obj} {mu fz : List (Addr × Obj)} (N : News h₀ L h (a :: b :: c :: (mu ++ fz))) : News h₀ L h (b :: a :: (mu ++ (c :: fz))) := fun p hp => N p (by
  simp only [List.mem_cons, List.mem_append] at hp ⊢; rcases hp with h | h | h | h | h <;> simp [h])
theorem news_end {h₀ h : Heap} {L : Addr} {a b c d : Addr × Obj} {mu fz : List (Addr × Obj)} (N : News h₀ L h (a :: b :: c :: d :: (mu ++ fz))) : News h₀ L h (mu ++ (a :: b :: d :: fz)) := fun p hp => N p (by
  simp only [List.mem_cons, List.mem_append] at hp ⊢; rcases hp with h | h | h | h | h <;> simp [h])
theorem Grow.cons {dx q : Addr} {mu fz fzj : List (Addr × Obj)} {o : Obj} (G : Grow dx mu fz fzj) (h0 : dx < q) (h1 : ∀ p ∈ mu, p.1 < q) (h2 : ∀ p ∈ fz, p.1 < q) : Grow dx mu fz ((q, o) :: fzj) :=
  ⟨fun p h => mem_tl (G.sub p h), fun x hx => by
    rcases List.mem_cons.mp hx with rfl | hx
    · exact .inr ⟨h0, h1, h2⟩
    · exact G.new x hx⟩
theorem itemsS_le : ∀ {r : List Tk} {k : Nat} {acc : List Dat}, k ≤ (itemsS k acc r).2
  | [], _, _ => Nat.le_refl _
  | t :: r, k, acc => by
    unfold itemsS
    split
    · exact Nat.le_trans (Nat.le_succ k) itemsS_le
    · exact Nat.le_refl _
theorem declT_le {toks : List Tk} {k k' : Nat} {D : Dat} (h : declT toks k = .ok D k') : k + 1 ≤ k' := by
  have q := itemsS_le (r := toks.drop (k + 1)) (k := k + 1) (acc := [])
  unfold declT at h
  generalize itemsS (k + 1) [] (toks.drop (k + 1)) = y at h q
  obtain ⟨is, j⟩ := y
  cases is with
  | nil => cases h
  | cons i is => cases h; exact q
theorem altsT_le {toks : List Tk} : ∀ {f k k' : Nat} {acc as : List Dat}, altsT toks f k acc = .ok as k' → k ≤ k'
  | 0, _, _, _, _, h => by cases h
  | f + 1, k, k', acc, as, h => by
    cases e : altS k [] (toks.drop k) with
    | err x => rw [altsT_err e] at h; cases h
    | ok D j =>
      rw [altsT_ok e, contA] at h
      have := altS_le e
      split at h
      · have := altsT_le h; omega
      · cases h; omega
theorem ruleT_le {toks : List Tk} {f k k' : Nat} {D : Dat} (h : ruleT toks f k = .ok D k') : k + 1 ≤ k' := by
  unfold ruleT at h
  cases e : altsT toks f (k + 1) [] with
  | err x => rw [e] at h; cases h
  | ok as j =>
    rw [e] at h
    have := altsT_le e
    have hs : j ≤ semi toks j := by unfold semi; split <;> omega
    cases h; omega
theorem grow_end {dx rl d' x' : Addr} {o1 o2 o3 : Obj} {mu fz g fzi : List (Addr × Obj)} (G : Grow dx mu fz g) (hG : Grow dx mu g fzi) (v1 : dx < rl) (v2 : ∀ p ∈ mu, p.1 < rl) (v3 : ∀ p ∈ g, p.1 < rl) (l1 : dx < d' ∧ rl < d' ∧ AllLt d' (mu ++ fzi)) (l2 : d' < x') : Grow dx mu fz ((x', o1) :: (d', o2) :: (rl, o3) :: fzi) := by
  have a1 : ∀ p ∈ mu, p.1 < d' := fun p hp => ltOf l1.2.2 p (List.mem_append_left _ hp)
  have a2 : ∀ p ∈ fzi, p.1 < d' := fun p hp => ltOf l1.2.2 p (List.mem_append_right _ hp)
  have G3 := G.trans hG
  have a3 : ∀ p ∈ fz, p.1 < d' := fun p hp => a2 p (G3.sub p hp)
  have a4 : ∀ p ∈ fz, p.1 < rl := fun p hp => v3 p (G.sub p hp)
  refine ⟨fun p hp => mem_tl (mem_tl (mem_tl (G3.sub p hp))), fun q hq => ?_⟩
  rcases List.mem_cons.mp hq with rfl | hq
  · exact .inr ⟨Nat.lt_trans l1.1 l2, fun p hp => Nat.lt_trans (a1 p hp) l2, fun p hp => Nat.lt_trans (a3 p hp) l2⟩
  rcases List.mem_cons.mp hq with rfl | hq
  · exact .inr ⟨l1.1, a1, a3⟩
  rcases List.mem_cons.mp hq with rfl | hq
  · exact .inr ⟨v1, v2, a4⟩
  exact G3.new q hq
theorem memG {dl rl : Addr} {o : Obj} {f : List (Addr × Obj)} (v0 : dl < rl) (v3 : ∀ p ∈ f, p.1 < rl) : ∀ p ∈ (dl, o) :: f, p.1 < rl := fun p hp => by
  rcases List.mem_cons.mp hp with rfl | hp
  · exact v0
  · exact v3 p hp
section
variable {w : World} {mean : ExcName → Option Value} {mg mb : Str → Option Value} {dp un : Nat} {gd : Option (List Code)} {cn : Str} {cs : Scope} {a : Addr} {ccd : Value} {cl : List (Str × Addr)} {outer : List Env} {A₀ : Around} {base h₀ : Heap} {L : Addr} {m : Str → Option Value} {s : Shared} {Q E : Value → Shared → Prop}
  {fz mu r : List (Addr × Obj)} {x dx tl : Addr} {ha hb : Int} {ta tb : Tok} {toks rest : List Tk} {k f : Nat} {tk : Tok} {kd : Str} {wv : Value} {d : Dat}
theorem file_c (C : Cx w mean mg mb dp un cs A₀ base outer h₀ 12) (F : Fr h₀ L s.heap m) (N : News h₀ L s.heap ((dx, rdObj ha hb ta tb tl 0 tk) :: (mu ++ fz))) (hm : ∀ p ∈ mu, p.1 ≠ dx) (hne : ∀ p ∈ fz, p.1 ≠ dx) (R : RdF fz x dx tl toks) (hlive : Live toks)
  (ret : ∀ h' tk' v fz' ds rs k', fileT toks = .ok (ds, rs) k' → Fr h₀ L h' m → News h₀ L h' (mu ++ fz') → Grow dx mu fz fz' → TreeIn fz' v ds rs → Q v { s with heap := h', toks := tk' })
  (exc : ∀ e d g₂ h' tk' news' k', fileT toks = .err k' → RaisedX base (envX cn cs L a ccd cl :: outer) e d news' h' → ErrAt news' d (7 * (k' : Int)) → (∀ p ∈ mu ++ fz, p ∈ news') → Fr h₀ L g₂ m → g₂.UpToSlots h' → E (.ref e) { s with heap := h', toks := tk' }) :
  wpAny (model PG w) (ktrTop dp un gd cn cs L a ccd cl outer) (call (.ref 200) [.ref x]) Q E s := by
  obtain ⟨B, X, T, hk, hd, hu⟩ := C
  have hMk := kstMark
  have hx := R.hx
  refine wpAny_call ?_
  k_dflt ktr_enter
  (repeat' ((fail_if_success (with_reducible show wpAny _ _ (exec (Stmt.While _ _ _ _) _) _ _ _)); first | (k_unfold; (try dsimp only)) | (k_end; kc_close) | walk1 | (dsimp only; walk1) | (leave1; walk_say "STEP leave1"; (try dsimp only)) | (refine useX (by with_reducible assumption) ?_; (try ((fail_if_success (with_reducible show WStep _ _ _ _ _ _ _ Flow.next _)); dsimp only [WStep]))) | fail "no step"))
  obtain ⟨dl, hdl, l1, l2, l3⟩ := andAllE (by assumption)
  subst hdl
  refine while_const (fun n nw => ∃ j acc vsp np t' fzj, nw = (dx, rdObj ha hb ta tb tl j t') :: (dl, W.listOf (List.toArray vsp) np) :: (mu ++ fzj) ∧ Live (toks.drop j) ∧ declsT toks n j acc = declsT toks (toks.length + 1) 0 [] ∧ toks.length + 1 ≤ j + n ∧ DatAll fzj vsp acc ∧ Grow dx mu fz fzj ∧ (∀ p ∈ fzj, p.1 ≠ dl) ∧ vsp.length ≤ j) (toks.length + 1) (by assumption) (by ktr_rel)
      ⟨0, [], [], _, _, fz, rfl, hlive, rfl, by omega, .nil, .refl, fun p hp => Nat.ne_of_lt (l3 p hp), Nat.zero_le _⟩ ?_
  rintro n nw h1 tk1 F1 N1 ⟨j, acc, vsp, np, t1, fzj, rfl, hL, hS, hfj, hA, hG, hpl, hlen⟩
  refine abs_while fun W9 hW9 => ?_
  have R1 := R.mono hG.sub
  have hx1 := R1.hx
  have hne1 := hG.neD hne
  have hpm : ∀ p ∈ mu, p.1 ≠ dl := fun p hp => Nat.ne_of_lt (l2 p hp)
  obtain ⟨⟨k1, w1, d1⟩, r1, hj, hv1⟩ := live_get hL
  have hjl := (List.getElem?_eq_some_iff.mp hv1).1
  have hj9 : j < 900 := by
    have := R.len
    omega
  obtain ⟨n, rfl⟩ : ∃ g, n = g + 1 := ⟨n - 1, by omega⟩
  cases hz : (k1 == S "KIND") with
  | true =>
    have hz' : kindAt toks j = S "KIND" := (kindAt_of hv1).trans (beq_iff_eq.mp hz)
    have hkd : k1 ≠ S "$end" := by rw [beq_iff_eq.mp hz]; decide
    (repeat' ((fail_if_success (with_reducible show wpAny _ _ (exec (Stmt.While _ _ _ _) _) _ _ _)); first | (k_unfold; (try dsimp only)) | (k_end; kc_close) | walk1 | (dsimp only; walk1) | (leave1; walk_say "STEP leave1"; (try dsimp only)) | (refine useX (by with_reducible assumption) ?_; (try ((fail_if_success (with_reducible show WStep _ _ _ _ _ _ _ Flow.next _)); dsimp only [WStep]))) | fail "no step"))
    · have h1 := declT_le (show declT toks j = _ by assumption)
      refine WStep.next _ _ _ n (by assumption) (by assumption) (by omega) ⟨_, _, _, _, _, _, led_push, by assumption, (declsT_ok hz' (by assumption)).symm.trans hS, by omega, (hA.mono (Grow.sub (by assumption))).append (.one (by assumption)), hG.trans (Grow.less (by assumption) fun p h => mem_tl h), by assumption, ?_⟩
      simp only [List.length_append, List.length_cons, List.length_nil]; omega
    · refine exc _ _ _ _ _ _ _ ?_ (by assumption) (by assumption) ?_ (by assumption) (by assumption)
      · rw [fileT, ← hS, declsT_err hz' (by assumption)]; rfl
      · exact subNews (by assumption) hG.sub
  | false =>
    have hS1 : fileT toks = fileMid toks (.ok acc j) := by rw [fileT, ← hS, declsT, if_neg (by rw [kindAt_of hv1]; exact beq_eq_false_iff_ne.mp hz)]
    cases hm1 : (k1 == S "MARK") with
    | false =>
      have hS2 : fileT toks = .err j := by rw [hS1, fileMid, if_neg (by rw [kindAt_of hv1]; exact beq_eq_false_iff_ne.mp hm1)]
      (repeat' ((fail_if_success (with_reducible show wpAny _ _ (exec (Stmt.While _ _ _ _) _) _ _ _)); first | (k_unfold; (try dsimp only)) | (k_end; kc_close) | walk1 | (dsimp only; walk1) | (leave1; walk_say "STEP leave1"; (try dsimp only)) | (refine useX (by with_reducible assumption) ?_; (try ((fail_if_success (with_reducible show WStep _ _ _ _ _ _ _ Flow.next _)); dsimp only [WStep]))) | fail "no step"))
      exact exc _ _ _ _ _ _ _ hS2 (by assumption) (by assumption) (subNews (by assumption) hG.sub) (by assumption) (by assumption)
    | true =>
      have hm2 : kindAt toks j = S "MARK" := (kindAt_of hv1).trans (beq_iff_eq.mp hm1)
      have hS2 : fileT toks = fileEnd toks acc (rulesT toks (toks.length + 1) (j + 1) []) := by rw [hS1, fileMid, if_pos hm2]
      have hL2 := live_next hL hv1 (by show k1 ≠ _; rw [beq_iff_eq.mp hm1]; decide)
      have hw1 : handedIn w1 = true := (R1.dat _ (List.mem_of_getElem? hv1)).1.handed
      (repeat' ((fail_if_success (with_reducible show wpAny _ _ (exec (Stmt.While _ _ _ _) _) _ _ _)); first | (k_unfold; (try dsimp only)) | (k_end; kc_close) | walk1 | (dsimp only; walk1) | (leave1; walk_say "STEP leave1"; (try dsimp only)) | (refine useX (by with_reducible assumption) ?_; (try ((fail_if_success (with_reducible show WStep _ _ _ _ _ _ _ Flow.next _)); dsimp only [WStep]))) | fail "no step"))
      obtain ⟨rl, hrl, v1, v0, v2, v3⟩ := andAllE4 (by assumption)
      subst hrl
      have G2 : Grow dx mu fz ((dl, W.listOf vsp.toArray np) :: fzj) := hG.cons l1 l2 l3
      have R2 := R1.mono (fun p hp => mem_tl hp : ∀ p ∈ fzj, p ∈ (dl, W.listOf vsp.toArray np) :: fzj)
      have hne2 := G2.neD hne
      have hrm : ∀ p ∈ mu, p.1 ≠ rl := fun p hp => Nat.ne_of_lt (v2 p hp)
      clear hL hv1 hx1 hx
      have hD : DatIn ((dl, W.listOf vsp.toArray np) :: fzj) (.ref dl) (.list acc) := .list (.head _) (hA.mono fun p h => mem_tl h)
      refine while_const (fun n nw => ∃ i racc vsr nr t' fzi, nw = (dx, rdObj ha hb ta tb tl i t') :: (rl, W.listOf (List.toArray vsr) nr) :: (mu ++ fzi) ∧ Live (toks.drop i) ∧ rulesT toks n i racc = rulesT toks (toks.length + 1) (j + 1) [] ∧ toks.length + 1 ≤ i + n ∧ DatAll fzi vsr racc ∧ Grow dx mu ((dl, W.listOf vsp.toArray np) :: fzj) fzi ∧ (∀ p ∈ fzi, p.1 ≠ rl) ∧ vsr.length ≤ i) (toks.length + 1) (by assumption) (news_rl (by assumption))
          ⟨j + 1, [], [], _, _, _, rfl, hL2, rfl, by omega, .nil, .refl, ?_, Nat.zero_le _⟩ ?_
      · intro p hp
        rcases List.mem_cons.mp hp with rfl | hp
        · exact Nat.ne_of_lt v0
        · exact Nat.ne_of_lt (v3 p hp)
      rintro n nw h1 tk1 F1 N1 ⟨i, racc, vsr, nr, t1, fzi, rfl, hL, hS, hfj, hA, hG, hpl, hlen⟩
      refine abs_while fun W9 hW9 => ?_
      have R1 := R2.mono hG.sub
      have hx1 := R1.hx
      have hne1 := hG.neD hne2
      obtain ⟨⟨k1, w1, d1⟩, r1, hj, hv1⟩ := live_get hL
      have hjl := (List.getElem?_eq_some_iff.mp hv1).1
      have hj9 : i < 900 := by
        have := R.len
        omega
      obtain ⟨n, rfl⟩ : ∃ g, n = g + 1 := ⟨n - 1, by omega⟩
      have hw1 : handedIn w1 = true := (R1.dat _ (List.mem_of_getElem? hv1)).1.handed
      cases hz : (k1 == S "HEAD") with
      | true =>
        have hz' : kindAt toks i = S "HEAD" := (kindAt_of hv1).trans (beq_iff_eq.mp hz)
        have hkd : k1 ≠ S "$end" := by rw [beq_iff_eq.mp hz]; decide
        (repeat' ((fail_if_success (with_reducible show wpAny _ _ (exec (Stmt.While _ _ _ _) _) _ _ _)); first | (k_unfold; (try dsimp only)) | (k_end; kc_close) | walk1 | (dsimp only; walk1) | (leave1; walk_say "STEP leave1"; (try dsimp only)) | (refine useX (by with_reducible assumption) ?_; (try ((fail_if_success (with_reducible show WStep _ _ _ _ _ _ _ Flow.next _)); dsimp only [WStep]))) | fail "no step"))
        · have h1 := ruleT_le (show ruleT toks toks.length i = _ by assumption)
          refine WStep.next _ _ _ n (by assumption) (by assumption) (by omega) ⟨_, _, _, _, _, _, led_push, by assumption, (rulesT_ok hz' (by assumption)).symm.trans hS, by omega, (hA.mono (Grow.sub (by assumption))).append (.one (by assumption)), hG.trans (Grow.less (by assumption) fun p h => mem_tl h), by assumption, ?_⟩
          simp only [List.length_append, List.length_cons, List.length_nil]; omega
        · refine exc _ _ _ _ _ _ _ ?_ (by assumption) (by assumption) ?_ (by assumption) (by assumption)
          · rw [hS2, ← hS, rulesT_err hz' (by assumption)]; rfl
          · exact subNews (by assumption) fun p hp => hG.sub p (G2.sub p hp)
      | false =>
        have hS3 : fileT toks = fileEnd toks acc (.ok racc i) := by rw [hS2, ← hS, rulesT, if_neg (by rw [kindAt_of hv1]; exact beq_eq_false_iff_ne.mp hz)]
        have hlv := hA.length
        cases racc with
        | nil =>
          obtain rfl : vsr = [] := List.length_eq_zero_iff.mp hlv
          (repeat' ((fail_if_success (with_reducible show wpAny _ _ (exec (Stmt.While _ _ _ _) _) _ _ _)); first | (k_unfold; (try dsimp only)) | (k_end; kc_close) | walk1 | (dsimp only; walk1) | (leave1; walk_say "STEP leave1"; (try dsimp only)) | (refine useX (by with_reducible assumption) ?_; (try ((fail_if_success (with_reducible show WStep _ _ _ _ _ _ _ Flow.next _)); dsimp only [WStep]))) | fail "no step"))
          exact exc _ _ _ _ _ _ _ hS3 (by assumption) (by assumption) (subNews (by assumption) fun p hp => hG.sub p (G2.sub p hp)) (by assumption) (by assumption)
        | cons r rs =>
          have hpos : 0 < vsr.length := by rw [hlv]; simp
          cases hm3 : (k1 == S "MARK") with
          | false =>
            have hmk : mark toks i = i := by rw [mark, if_neg (by rw [kindAt_of hv1]; exact beq_eq_false_iff_ne.mp hm3)]
            cases he : (k1 == S "$end") with
            | false => 
              have hS4 : fileT toks = .err i := by rw [hS3, fileEnd, hmk, if_neg (by rw [kindAt_of hv1]; exact beq_eq_false_iff_ne.mp he)]
              (repeat' ((fail_if_success (with_reducible show wpAny _ _ (exec (Stmt.While _ _ _ _) _) _ _ _)); first | (k_unfold; (try dsimp only)) | (k_end; kc_close) | walk1 | (dsimp only; walk1) | (leave1; walk_say "STEP leave1"; (try dsimp only)) | (refine useX (by with_reducible assumption) ?_; (try ((fail_if_success (with_reducible show WStep _ _ _ _ _ _ _ Flow.next _)); dsimp only [WStep]))) | fail "no step"))
              exact exc _ _ _ _ _ _ _ hS4 (by assumption) (by assumption) (subNews (by assumption) fun p hp => hG.sub p (G2.sub p hp)) (by assumption) (by assumption)
            | true =>
              have hS4 : fileT toks = .ok (acc, r :: rs) i := by rw [hS3, fileEnd, hmk, if_pos ((kindAt_of hv1).trans (beq_iff_eq.mp he))]
              (repeat' ((fail_if_success (with_reducible show wpAny _ _ (exec (Stmt.While _ _ _ _) _) _ _ _)); first | (k_unfold; (try dsimp only)) | (k_end; kc_close) | walk1 | (dsimp only; walk1) | (leave1; walk_say "STEP leave1"; (try dsimp only)) | (refine useX (by with_reducible assumption) ?_; (try ((fail_if_success (with_reducible show WStep _ _ _ _ _ _ _ Flow.next _)); dsimp only [WStep]))) | fail "no step"))
              refine ret _ _ _ _ _ _ _ hS4 (by assumption) (news_end (by assumption)) ?_ ⟨_, _, _, _, _, _, _, _, rfl, .head _, mem_tl (.head _), ?_, ?_⟩
              · exact grow_end G2 hG v1 v2 (memG v0 v3) (by assumption) (by assumption)
              · exact hD.mono fun p hp => mem_tl (mem_tl (mem_tl (hG.sub p hp)))
              · exact DatIn.list (mem_tl (mem_tl (.head _))) (hA.mono fun p hp => mem_tl (mem_tl (mem_tl hp)))
          | true =>
            have hm4 := beq_iff_eq.mp hm3
            have hmk : mark toks i = i + 1 := by rw [mark, if_pos ((kindAt_of hv1).trans hm4)]
            have hL3 := live_next hL hv1 (by show k1 ≠ _; rw [hm4]; decide)
            obtain ⟨⟨k2, w2, d2⟩, r2, hj2, hv2⟩ := live_get hL3
            cases he : (k2 == S "$end") with
            | false => 
              have hS4 : fileT toks = .err (i + 1) := by rw [hS3, fileEnd, hmk, if_neg (by rw [kindAt_of hv2]; exact beq_eq_false_iff_ne.mp he)]
              (repeat' ((fail_if_success (with_reducible show wpAny _ _ (exec (Stmt.While _ _ _ _) _) _ _ _)); first | (k_unfold; (try dsimp only)) | (k_end; kc_close) | walk1 | (dsimp only; walk1) | (leave1; walk_say "STEP leave1"; (try dsimp only)) | (refine useX (by with_reducible assumption) ?_; (try ((fail_if_success (with_reducible show WStep _ _ _ _ _ _ _ Flow.next _)); dsimp only [WStep]))) | fail "no step"))
              exact exc _ _ _ _ _ _ _ hS4 (by assumption) (by assumption) (subNews (by assumption) fun p hp => hG.sub p (G2.sub p hp)) (by assumption) (by assumption)
            | true =>
              have hS4 : fileT toks = .ok (acc, r :: rs) (i + 1) := by rw [hS3, fileEnd, hmk, if_pos ((kindAt_of hv2).trans (beq_iff_eq.mp he))]
              (repeat' ((fail_if_success (with_reducible show wpAny _ _ (exec (Stmt.While _ _ _ _) _) _ _ _)); first | (k_unfold; (try dsimp only)) | (k_end; kc_close) | walk1 | (dsimp only; walk1) | (leave1; walk_say "STEP leave1"; (try dsimp only)) | (refine useX (by with_reducible assumption) ?_; (try ((fail_if_success (with_reducible show WStep _ _ _ _ _ _ _ Flow.next _)); dsimp only [WStep]))) | fail "no step"))
              refine ret _ _ _ _ _ _ _ hS4 (by assumption) (news_end (by assumption)) ?_ ⟨_, _, _, _, _, _, _, _, rfl, .head _, mem_tl (.head _), ?_, ?_⟩
              · exact grow_end G2 hG v1 v2 (memG v0 v3) (by assumption) (by assumption)
              · exact hD.mono fun p hp => mem_tl (mem_tl (mem_tl (hG.sub p hp)))
              · exact DatIn.list (mem_tl (mem_tl (.head _))) (hA.mono fun p hp => mem_tl (mem_tl (mem_tl hp)))
end
end

section
theorem start_Dd : True := by
  w_top off
  k_with_none
  (k_with "k_room!" => (((try simp only [depth_under_make, depth_under_kw, depth_in1, depth_deeper, depth_caller]); (try dsimp only [ktrTop]); omega)))
  (k_with "ktr_room!" => (((try simp only [depth_under_make, depth_under_kw, depth_in1, depth_deeper, depth_caller]); (try dsimp only [ktrTop]); omega)))
  (k_with "ktr_units!" => (((try simp only [units_in1, units_deeper, Around.mark_units, units_caller]); (try dsimp only [ktrTop]); omega)))
  (k_with "ktr_rel!" => (first | k_asm | exact rot1 (by k_asm) | exact rot2 (by k_asm) | exact rot3 (by k_asm)))
  (k_with "tb_rel!" => (first | k_asm | exact fun _ h => h | (intro p hp; k_mem)))
  (k_with "size_fits!" => (((try simp only [List.size_toArray, List.length_append, List.length_cons, List.length_nil, PySem.sizeLine_eq]); omega)))
  trivial
open PySem PySem.W PyProof.Rows PySem.Spec PySem.Calls PyProof.V
set_option maxRecDepth 100000
theorem mHd {p : Addr × Obj} {l : List (Addr × Obj)} : p ∈ p :: l := .head _
/-- pairs of texts -/
noncomputable def SL : List (Str × Value) → List (Str × Str) → Prop
  | [], [] => True
  | (k, v) :: r, (k', x) :: r' => k = k' ∧ (∃ t, v = .str x t) ∧ SL r r'
  | _, _ => False
noncomputable def esOf : List (Value × Value) → List (Str × Str)
  | (.str k _, .str x _) :: r => (k, x) :: esOf r
  | _ => []
noncomputable def allStrs : List (Value × Value) → Bool
  | (.str _ _, .str _ _) :: r => allStrs r
  | [] => true
  | _ => false
theorem sl_of : ∀ vs : List (Value × Value), allStrs vs = true → SL (strPairs vs) (esOf vs)
  | [], _ => trivial
  | (a, b) :: r, h => by
    cases a with
    | str k t => cases b with
      | str x u => exact ⟨rfl, ⟨u, rfl⟩, sl_of r h⟩
      | _ => exact Bool.noConfusion h
    | _ => exact Bool.noConfusion h
noncomputable def atS {α : Type} (es : List (Str × α)) (k : Str) : Option α := (es.find? fun p => p.1 = k).map (·.2)
noncomputable def putS (es : List (Str × Str)) (k x : Str) : List (Str × Str) :=
  if es.any (fun p => p.1 = k) then es.map (fun p => if p.1 = k then (p.1, x) else p) else es ++ [(k, x)]
theorem SL.any : ∀ {kvs : List (Str × Value)} {es : List (Str × Str)}, SL kvs es → ∀ k, kvs.any (fun p => p.1 = k) = es.any (fun p => p.1 = k)
  | [], [], _, _ => rfl
  | (a, v) :: r, (b, x) :: r', ⟨h1, _, h3⟩, k => by simp only [List.any_cons, SL.any h3 k, h1]
theorem SL.putMap : ∀ {kvs : List (Str × Value)} {es : List (Str × Str)}, SL kvs es → ∀ k x t, SL (kvs.map (fun p => if p.1 = k then (p.1, .str x t) else p)) (es.map (fun p => if p.1 = k then (p.1, x) else p))
  | [], [], _, _, _, _ => trivial
  | (a, v) :: r, (b, y) :: r', ⟨h1, h2, h3⟩, k, x, t => by
    subst h1
    simp only [List.map_cons]
    by_cases e : a = k
    · rw [if_pos e, if_pos e]; exact ⟨rfl, ⟨t, rfl⟩, SL.putMap h3 k x t⟩
    · rw [if_neg e, if_neg e]; exact ⟨rfl, h2, SL.putMap h3 k x t⟩
theorem SL.snoc : ∀ {kvs : List (Str × Value)} {es : List (Str × Str)}, SL kvs es → ∀ k x t, SL (kvs ++ [(k, .str x t)]) (es ++ [(k, x)])
  | [], [], _, _, _, t => ⟨rfl, ⟨t, rfl⟩, trivial⟩
  | (a, v) :: r, (b, y) :: r', ⟨h1, h2, h3⟩, k, x, t => ⟨h1, h2, SL.snoc h3 k x t⟩
theorem SL.put {kvs : List (Str × Value)} {es : List (Str × Str)} (h : SL kvs es) (k x : Str) (t : Tok) : SL (stored kvs k (.str x t)) (putS es k x) := by
  unfold stored putS
  rw [h.any k]
  split
  · exact h.putMap k x t
  · exact h.snoc k x t
theorem SL.len : ∀ {kvs : List (Str × Value)} {es : List (Str × Str)}, SL kvs es → kvs.length = es.length
  | [], [], _ => rfl
  | _ :: _, _ :: _, ⟨_, _, h⟩ => congrArg (· + 1) h.len
theorem SL.at : ∀ {kvs : List (Str × Value)} {es : List (Str × Str)}, SL kvs es → ∀ k, (atS es k = none ∧ valueAt kvs k = none) ∨ ∃ x t, atS es k = some x ∧ valueAt kvs k = some (.str x t)
  | [], [], _, _ => .inl ⟨rfl, rfl⟩
  | (a, v) :: r, (b, y) :: r', ⟨h1, ⟨t, h2⟩, h3⟩, k => by
    subst h1 h2
    by_cases e : a = k
    · refine .inr ⟨y, t, ?_, ?_⟩
      · simp [atS, e]
      · simp [valueAt, e]
    · have := SL.at h3 k
      simpa [atS, valueAt, e] using this
noncomputable def DStr (w : World) (o : Obj) (es : List (Str × Str)) : Prop := ∃ kvs, o.IsDictOf (PySem.strKind PG w) kvs ∧ SL kvs es
section
variable {w : World} {A : Around} {E : Value → Shared → Prop} {s : Shared} {h₀ h : Heap} {L d src : Addr} {m : Str → Option Value} {news : List (Addr × Obj)} {g : Obj → List (Addr × Obj)} {o : Obj} {es : List (Str × Str)} {k x : Str} {tk tx : Tok}
theorem made_dstr {vs : List (Value × Value)} {P : Heap → Prop} (F : Fr h₀ L h m) (N : News h₀ L h news) (hbig : h₀.NoLimit) (hk : allStrKeys vs = true) (hn : ((strPairs vs).map (·.1)).Nodup) (hs : allStrs vs = true)
    (k : ∀ h' o, Fr h₀ L h' m → News h₀ L h' ((h.objs.size, o) :: news) → (∀ p ∈ news, p.1 < h.objs.size) → (h.objs.size == sysModules) = false → DStr w o (esOf vs) → P h') :
    ∃ kvs, Carries (PySem.strKind PG w) vs kvs ∧ (h.push { cls := .type "dict", data := .dict #[] }).DictOf (PySem.strKind PG w) h.objs.size [] ∧
      ∀ h', h'.DictOf (PySem.strKind PG w) h.objs.size (merged [] kvs) → Heap.SameBut h.objs.size (h.push { cls := .type "dict", data := .dict #[] }) h' → P h' :=
  made_str F N hk hn fun h' o F' N' hd => k h' o F' N' (fun p hp => Heap.lt_size (N p hp).1) (F.notModules (modules_low hbig)) ⟨_, hd, sl_of vs hs⟩
theorem call_dstr {Q : Value → Shared → Prop} (F : Fr h₀ L s.heap m) (N : News h₀ L s.heap news) (hbig : h₀.NoLimit) (hp : (src, o) ∈ news) (hd : DStr w o es) (lo : (src == sysModules) = false) (hl : es.length ≤ 1000)
    (k : ∀ d h' o', Fr h₀ L h' m → News h₀ L h' ((d, o') :: news) → (∀ p ∈ news, p.1 < d) → (d == sysModules) = false → DStr w o' es → Q (.ref d) { s with heap := h' }) :
    wpAny (model PG w) A (call (.type "dict") [.ref src]) Q E s := by
  obtain ⟨kvs, hd, hsl⟩ := hd
  refine kt_call_dict lo (kda_dict N hp hd) (by rw [hsl.len, sizeLine_eq]; omega) fun h' hm hs => ?_
  obtain ⟨o', ho', hd'⟩ := Heap.dictOf_iff.mp hm
  have N1 := News.push F N { cls := .type "dict", data := .dict #[] }
  exact k _ h' o' ((F.push _).change hs (N1 _ (.head _)).2.1 (N1.fresh (.head _))) (N1.setHead N.apart hs ho') (fun p hp => Heap.lt_size (N p hp).1) (F.notModules (modules_low hbig)) ⟨_, hd', hsl⟩
theorem set_dstr {Q : Unit → Shared → Prop} (F : Fr h₀ L s.heap m) (N : News h₀ L s.heap news) (U : UpdF d o news g) (hd : DStr w o es) (hl : es.length ≤ 1000)
    (h : ∀ h' tk' o', Fr h₀ L h' m → News h₀ L h' (g o') → DStr w o' (putS es k x) → Q () { s with heap := h', toks := tk' }) : wpAny (model PG w) A (setItem (.ref d) (.str k tk) (.str x tx)) Q E s := by
  obtain ⟨kvs, hd, hsl⟩ := hd
  exact kda_set F N U hd (strKind_is _ _ _ _) (by rw [hsl.len, sizeLine_eq]; omega) fun h' o' F' N' hd' => h h' _ o' F' N' ⟨_, hd', hsl.put k x tx⟩
theorem dstr_nil (h : o.IsDictOf (PySem.strKind PG w) []) : DStr w o [] := ⟨_, h, trivial⟩
theorem wp_gen {α : Type} {t : Sem α} {Q : α → Shared → Prop} (h : ∀ tk, wpAny (model PG w) A t Q E { s with toks := tk }) : wpAny (model PG w) A t Q E s := h s.toks
/-- a table of tables -/
noncomputable def TabL (w : World) (fz : List (Addr × Obj)) : List (Str × Value) → List (Str × List (Str × Str)) → Prop
  | [], [] => True
  | (k, v) :: r, (k', es) :: r' => k = k' ∧ (∃ b ob, v = .ref b ∧ (b, ob) ∈ fz ∧ (b == sysModules) = false ∧ DStr w ob es) ∧ TabL w fz r r'
  | _, _ => False
theorem TabL.at {w : World} {fz : List (Addr × Obj)} : ∀ {kvs : List (Str × Value)} {tab : List (Str × List (Str × Str))}, TabL w fz kvs tab → ∀ st, (atS tab st = none ∧ valueAt kvs st = none) ∨ ∃ es b ob, atS tab st = some es ∧ valueAt kvs st = some (.ref b) ∧ (b, ob) ∈ fz ∧ (b == sysModules) = false ∧ DStr w ob es
  | [], [], _, _ => .inl ⟨rfl, rfl⟩
  | (a, v) :: r, (b, y) :: r', ⟨h1, ⟨c, ob, h2, h3, h4, h5⟩, h6⟩, k => by
    subst h1 h2
    by_cases e : a = k
    · refine .inr ⟨y, c, ob, ?_, ?_, h3, h4, h5⟩
      · simp [atS, e]
      · simp [valueAt, e]
    · have := TabL.at h6 k
      simpa [atS, valueAt, e] using this
theorem TabL.mono {w : World} {fz fz' : List (Addr × Obj)} (hs : ∀ p ∈ fz, p ∈ fz') : ∀ {kvs : List (Str × Value)} {tab : List (Str × List (Str × Str))}, TabL w fz kvs tab → TabL w fz' kvs tab
  | [], [], _ => trivial
  | (a, v) :: r, (b, y) :: r', ⟨h1, ⟨c, ob, h2, h3, h4, h5⟩, h6⟩ => ⟨h1, ⟨c, ob, h2, hs _ h3, h4, h5⟩, TabL.mono hs h6⟩
theorem TabL.cons {w : World} {fz : List (Addr × Obj)} {k : Str} {b : Addr} {ob : Obj} {es : List (Str × Str)} {r : List (Str × Value)} {r' : List (Str × List (Str × Str))} (hm : (b, ob) ∈ fz) (hl : (b == sysModules) = false) (hd : DStr w ob es) (h : TabL w fz r r') : TabL w fz ((k, .ref b) :: r) ((k, es) :: r') :=
  ⟨rfl, ⟨b, ob, rfl, hm, hl, hd⟩, h⟩
noncomputable def TabsIn (w : World) (fz : List (Addr × Obj)) (v : Value) (tab : List (Str × List (Str × Str))) : Prop :=
  ∃ (a : Addr) (o : Obj) (kvs : List (Str × Value)), v = .ref a ∧ (a, o) ∈ fz ∧ (a == sysModules) = false ∧ o.IsDictOf (PySem.strKind PG w) kvs ∧ TabL w fz kvs tab
theorem TabsIn.mono {w : World} {fz fz' : List (Addr × Obj)} {v : Value} {tab : List (Str × List (Str × Str))} (h : TabsIn w fz v tab) (hs : ∀ p ∈ fz, p ∈ fz') : TabsIn w fz' v tab :=
  let ⟨a, o, kvs, h1, h2, h3, h4, h5⟩ := h; ⟨a, o, kvs, h1, hs _ h2, h3, h4, h5.mono hs⟩
noncomputable def endsT : List (Str × Str) := [(S "BAR", S "parts"), (S "SEMI", S "closed"), (S "HEAD", S "parts"), (S "MARK", S "over"), (S "$end", S "done")]
noncomputable def waysT : List (Str × List (Str × Str)) :=
  [(S "begin", [(S "KIND", S "bare"), (S "MARK", S "first")]),
   (S "bare", putS (putS (putS [] (S "NAME") (S "words")) (S "LITERAL") (S "words")) (S "NUMBER") (S "words")),
   (S "words", putS (putS (putS [(S "KIND", S "bare"), (S "MARK", S "first")] (S "NAME") (S "words")) (S "LITERAL") (S "words")) (S "NUMBER") (S "words")),
   (S "first", [(S "HEAD", S "parts")]),
   (S "parts", putS (putS (putS (putS (putS endsT (S "NAME") (S "parts")) (S "LITERAL") (S "parts")) (S "ACTION") (S "parts")) (S "EMPTY") (S "parts")) (S "PREC") (S "prec")),
   (S "prec", [(S "NAME", S "named"), (S "LITERAL", S "named")]),
   (S "named", putS endsT (S "ACTION") (S "acted")),
   (S "acted", endsT),
   (S "closed", [(S "HEAD", S "parts"), (S "MARK", S "over"), (S "$end", S "done")]),
   (S "over", [(S "$end", S "done")])]
theorem unrEnd {I ax : Addr} {it lo : Obj} {n' : List (Addr × Obj)} {m' : Str → Option Value} {h' : Heap} {tk : Nat} {R : (Str → Option Value) → List (Addr × Obj) → Prop} (F : Fr h₀ L h' m') (N : News h₀ L h' ((I, it) :: n')) (hne : ∀ p ∈ n', p.1 ≠ I) (hk : (ax, lo) ∈ n') (r : R m' n') :
    UnrEndW h₀ L s [(I, it)] (fun m' n' => SubL [(ax, lo)] n' ∧ R m' n') { s with heap := h', toks := tk } :=
  ⟨h', tk, m', n', rfl, F, N, fun p hp q hq => by rw [List.mem_singleton.mp hq]; exact hne p hp, ⟨hk, trivial⟩, r⟩
end
end

section
local macro_rules | `(tactic| k_mem) => `(tactic| first | with_reducible assumption | with_reducible exact mHd | (refine' mem_tl ?_; k_mem))
section
theorem start_Wy : True := by
  w_top off
  k_with_none
  (k_with "k_room!" => (((try simp only [depth_under_make, depth_under_kw, depth_in1, depth_deeper, depth_caller]); (try dsimp only [ktrTop]); omega)))
  (k_with "ktr_room!" => (((try simp only [depth_under_make, depth_under_kw, depth_in1, depth_deeper, depth_caller]); (try dsimp only [ktrTop]); omega)))
  (k_with "ktr_units!" => (((try simp only [units_in1, units_deeper, Around.mark_units, units_caller]); (try dsimp only [ktrTop]); omega)))
  (k_with "ktr_rel!" => (first | k_asm | exact rot1 (by k_asm) | exact rot2 (by k_asm) | exact rot3 (by k_asm)))
  (k_with "tb_rel!" => (first | k_asm | exact fun _ h => h | (intro p hp; k_mem)))
  (k_with "size_fits!" => (((try simp only [List.size_toArray, List.length_append, List.length_cons, List.length_nil, PySem.sizeLine_eq]); omega)))
  (k_with "call ref!" => (k_here; (try dsimp only [List.nil_append, List.cons_append]); (with_reducible show wpAny _ _ (call (Value.ref 179) _ _) _ _ _); k_dflt (refine' kind_c ?zzC ?zzF ?zzN ?zzhf ?zzR ?zzhv ?_; (case zzF => k_asm); (case zzN => ktr_rel); (case zzC => tb_start); (case zzR => k_asm); (case zzhf => tb_rel); (case zzhv => assumption); k_whole; intro _ _ _ _ _; (try k_sweep))))
  (k_with "call ref!" => (k_here; (try dsimp only [List.nil_append, List.cons_append]); (with_reducible show wpAny _ _ (call (Value.ref 186) _ _) _ _ _); k_dflt (refine' take_c ?zzC ?zzF ?zzN ?zzhne ?zzhf ?zzR ?zzhv ?_; (case zzF => k_asm); (case zzN => ktr_rel); (case zzC => tb_start); (case zzR => k_asm); (case zzhf => tb_rel); (case zzhv => assumption); (case zzhne => k_all); k_whole; intro _ _ _ _ _; (try k_sweep))))
  (k_with "Exists!" => (k_here; k_dflt (refine' made_dstr ?zzzF ?zzzN ?zzzb ?zzzk ?zzzn ?zzzs (fun zzhq zzoq zzFq zzNq zzl1 zzloq zzhDq => ?_); (case zzzF => k_asm); (case zzzN => first | k_asm | exact News.nil); (case zzzb => exact Top.nolimit (by k_asm)); (case zzzk => rfl); (case zzzn => exact of_decide_eq_true (by rfl)); (case zzzs => rfl); (try dsimp only [esOf] at zzhDq); (try k_lt zzl1); (revert zzhq zzoq zzFq zzNq zzl1 zzloq zzhDq; intro _ _ _ _ _ _ _); (try dsimp only); (try ((with_reducible refine wp_gen fun _ => ?_); (try dsimp only))))))
  (k_with "call type:dict!" => (k_here; (with_reducible show wpAny _ _ (call (Value.type "dict") [Value.ref _]) _ _ _); k_dflt (refine' call_dstr ?zzzF ?zzzN ?zzzb ?zzzp ?zzzd ?zzzlo ?zzzl (fun zzdq zzhq zzoq zzFq zzNq zzl1 zzloq zzhDq => ?_); (case zzzF => k_asm); (case zzzN => k_asm); (case zzzb => exact Top.nolimit (by k_asm)); (case zzzp => k_mem); (case zzzd => k_asm); (case zzzlo => k_asm); (case zzzl => exact Nat.le_of_ble_eq_true rfl); (try k_lt zzl1); (revert zzdq zzhq zzoq zzFq zzNq zzl1 zzloq zzhDq; intro _ _ _ _ _ _ _ _); (try dsimp only); (try ((with_reducible refine wp_gen fun _ => ?_); (try dsimp only))))))
  (k_with "KdnMade!" => (k_here; k_dflt (refine' kdn_made_str ?zzzF ?zzzN ?zzzU ?zzzd ?zzzk ?zzzn ?_; (case zzzF => k_asm); (case zzzN => k_asm); (case zzzU => k_updF); (case zzzd => k_asm); (case zzzk => rfl); (case zzzn => exact of_decide_eq_true (by first | rfl | kernel_rfl!)); intro zzhq zzoq zzFq zzNq zzhdq; dsimp only [strPairs] at zzhdq; (try dsimp only at zzNq); (revert zzhq zzoq zzFq zzNq zzhdq; intro _ _ _ _ _); (try dsimp only); (try ((with_reducible refine wp_gen fun _ => ?_); (try dsimp only))))))
  (k_with "setItem ref str!" => (k_here; k_dflt (refine' set_dstr ?zzzF ?zzzN ?zzzU ?zzzd ?zzzl (fun zzhq zztkq zzoq zzFq zzNq zzhDq => ?_); (case zzzF => k_asm); (case zzzN => k_asm); (case zzzU => k_updF); (case zzzd => first | k_asm | exact dstr_nil (by k_asm)); (case zzzl => exact Nat.le_of_ble_eq_true rfl); (try dsimp only at zzNq); (revert zzhq zztkq zzoq zzFq zzNq zzhDq; intro _ _ _ _ _ _))))
  (k_with "pyIter ref!" => (k_here; (with_reducible show wpAny _ _ (pyIter (Value.ref _)) (fun it s₂ => TurnsAt _ _ _ _ _ _ _ _ _ it s₂) _ _); k_dflt (refine' iter_tupTurns (vs := [_, _, _, _]) ?zzzh ?zzzF ?zzzN ?zzzm ?zzzc ?zzzd ?_; (case zzzh => rfl); (case zzzF => k_asm); (case zzzN => k_asm); (case zzzm => k_mem); (case zzzc => rfl); (case zzzd => rfl); intro zziq zzl1; (try k_lt zzl1); (revert zziq zzl1; intro _ _))))
  (k_with "pyIter ref!" => (k_here; (with_reducible show wpAny _ _ (pyIter (Value.ref _)) (fun it s₂ => TurnsAt _ _ _ _ _ _ _ _ _ it s₂) _ _); k_dflt (refine' iter_tupTurns (vs := [_, _, _]) ?zzzh ?zzzF ?zzzN ?zzzm ?zzzc ?zzzd ?_; (case zzzh => rfl); (case zzzF => k_asm); (case zzzN => k_asm); (case zzzm => k_mem); (case zzzc => rfl); (case zzzd => rfl); intro zziq zzl1; (try k_lt zzl1); (revert zziq zzl1; intro _ _))))
  (k_with "UnrEndW!" => (k_here; k_dflt (refine' unrEnd ?zzzF ?zzzN ?zzzne ?zzzk ?_; (case zzzF => k_asm); (case zzzN => k_asm); (case zzzne => k_all); (case zzzk => k_mem))))
  (k_with "subscriptTail Name Constant ref str!" => (k_here; (with_reducible show wpAny _ _ (subscriptTail _ _ (Value.ref _) (Value.str _ _)) _ _ _); k_dflt (refine' kda_item (knd := PySem.strKind _ _) ?zzzN ?zzzp ?zzzd (strKind_is _ _ _ _) ?zzzl ?_; (case zzzN => k_asm); (case zzzp => k_mem); (case zzzd => k_asm); (case zzzl => rfl))))
  (k_with "ItemsRest!" => (k_here; k_dflt ((with_unfolding_all refine ItemsRest.zero (fun zzhq zztkq zzFq zzNq => ?_)); (try dsimp only [envOf] at zzFq zzNq); (revert zzhq zztkq zzFq zzNq; intro _ _ _ _); (try dsimp only); (try ((with_reducible refine wp_gen fun _ => ?_); (try dsimp only))))))
  (k_with "newTuple!" => (k_here; k_dflt (refine' kup_newTuple ?zzzF ?zzzN ?_ ?zzzz; (case zzzF => k_asm); (case zzzN => k_asm); (case zzzz => kmk_size)); intro zzDq zzhq zzFq zzNq zzl1; (try k_lt zzl1); (revert zzDq zzhq zzFq zzNq zzl1; intro _ _ _ _ _); (try k_sweep)))
  trivial
open PySem PySem.W PyProof.Rows PySem.Spec PySem.Calls
set_option maxRecDepth 100000
set_option maxHeartbeats 4000000
section
variable {w : World} {mean : ExcName → Option Value} {mg mb : Str → Option Value} {dp un : Nat} {gd : Option (List Code)} {cn : Str} {cs : Scope} {a : Addr} {ccd : Value} {cl : List (Str × Addr)} {outer : List Env} {A₀ : Around} {base h₀ : Heap} {L : Addr} {m : Str → Option Value} {s : Shared} {Q E : Value → Shared → Prop}
  {fz mu r : List (Addr × Obj)}
theorem ways_c (C : Cx w mean mg mb dp un cs A₀ base outer h₀ 6) (F : Fr h₀ L s.heap m) (N : News h₀ L s.heap r)
  (ret : ∀ h' tk' v fz', Fr h₀ L h' m → News h₀ L h' (fz' ++ r) → (∀ p ∈ fz', ∀ q ∈ r, q.1 ≠ p.1) → TabsIn w fz' v waysT → Q v { s with heap := h', toks := tk' }) :
  wpAny (model PG w) (ktrTop dp un gd cn cs L a ccd cl outer) (call (.ref 250) []) Q E s := by
  obtain ⟨B, X, T, hk, hd, hu⟩ := C
  have hMk := kstMark
  refine wpAny_call ?_
  k_dflt ktr_enter
  (repeat' (first | (k_unfold; (try dsimp only)) | (k_end; kc_close) | (walk1) | (dsimp only; walk1) | (leave1; walk_say "STEP leave1"; (try dsimp only)) | fail "no step"))
  refine ret _ _ _ [_, _, _, _, _, _, _, _, _, _, _, _, _, _] (by assumption) (by assumption) ?_ ⟨_, _, _, rfl, ?_, by assumption, by assumption, ?_⟩
  · simp only [List.forall_mem_cons]
    refine ⟨?_, ?_, ?_, ?_, ?_, ?_, ?_, ?_, ?_, ?_, ?_, ?_, ?_, ?_, fun _ h => nomatch h⟩
    all_goals k_all
  · k_mem
  · unfold waysT
    refine TabL.cons (by k_mem) (by assumption) (by assumption) ?_
    refine TabL.cons (by k_mem) (by assumption) (by assumption) ?_
    refine TabL.cons (by k_mem) (by assumption) (by assumption) ?_
    refine TabL.cons (by k_mem) (by assumption) (by assumption) ?_
    refine TabL.cons (by k_mem) (by assumption) (by assumption) ?_
    refine TabL.cons (by k_mem) (by assumption) (by assumption) ?_
    refine TabL.cons (by k_mem) (by assumption) (by assumption) ?_
    refine TabL.cons (by k_mem) (by assumption) (by assumption) ?_
    refine TabL.cons (by k_mem) (by assumption) (by assumption) ?_
    refine TabL.cons (by k_mem) (by assumption) (by assumption) ?_
    trivial
end
end

section
theorem start_Tk : True := by
  w_top off
  k_with_none
  (k_with "k_room!" => (((try simp only [depth_under_make, depth_under_kw, depth_in1, depth_deeper, depth_caller]); (try dsimp only [ktrTop]); omega)))
  (k_with "ktr_room!" => (((try simp only [depth_under_make, depth_under_kw, depth_in1, depth_deeper, depth_caller]); (try dsimp only [ktrTop]); omega)))
  (k_with "ktr_units!" => (((try simp only [units_in1, units_deeper, Around.mark_units, units_caller]); (try dsimp only [ktrTop]); omega)))
  (k_with "ktr_rel!" => (first | k_asm | exact rot1 (by k_asm) | exact rot2 (by k_asm) | exact rot3 (by k_asm)))
  (k_with "tb_rel!" => (first | k_asm | exact fun _ h => h | (intro p hp; k_mem)))
  (k_with "size_fits!" => (((try simp only [List.size_toArray, List.length_append, List.length_cons, List.length_nil, PySem.sizeLine_eq]); omega)))
  (k_with "call ref!" => (k_here; (try dsimp only [List.nil_append, List.cons_append]); (with_reducible show wpAny _ _ (call (Value.ref 179) _ _) _ _ _); k_dflt (refine' kind_c ?zzC ?zzF ?zzN ?zzhf ?zzR ?zzhv ?_; (case zzF => k_asm); (case zzN => ktr_rel); (case zzC => tb_start); (case zzR => k_asm); (case zzhf => tb_rel); (case zzhv => assumption); k_whole; intro _ _ _ _ _; (try k_sweep))))
  (k_with "call ref!" => (k_here; (try dsimp only [List.nil_append, List.cons_append]); (with_reducible show wpAny _ _ (call (Value.ref 186) _ _) _ _ _); k_dflt (refine' take_c ?zzC ?zzF ?zzN ?zzhne ?zzhf ?zzR ?zzhv ?_; (case zzF => k_asm); (case zzN => ktr_rel); (case zzC => tb_start); (case zzR => k_asm); (case zzhf => tb_rel); (case zzhv => assumption); (case zzhne => k_all); k_whole; intro _ _ _ _ _; (try k_sweep))))
  (k_with "call builtin:len!" => (k_here; (with_reducible show wpAny _ _ (call (Value.builtin "len") [Value.ref _]) _ _ _); k_dflt (refine' kst_len ?zzk1 ?zzk2 ?zzk3 ?zzk4 ?_; (case zzk1 => k_asm); (case zzk2 => k_mem); (case zzk3 => exact rfl); (case zzk4 => first | omega | ((try simp only [List.length_cons, List.length_nil, List.length_append]); omega)); k_whole)))
  (k_with "compareOp Eq int int!" => (k_here; (with_reducible show wpAny _ _ (compareOp CmpOp.Eq (Value.int _ _) (Value.int _ _)) _ _ _); k_dflt (refine' eq_intF ?zza ?_; (case zza => omega))))
  (k_with "pyIter ref!" => (k_here; (with_reducible show wpAny _ _ (pyIter (Value.ref _)) (fun it s₂ => TurnsAt _ _ _ _ _ _ _ _ _ it s₂) _ _); k_dflt (refine' iter_tupTurns (vs := [_, _, _, _]) ?zzzh ?zzzF ?zzzN ?zzzm ?zzzc ?zzzd ?_; (case zzzh => rfl); (case zzzF => k_asm); (case zzzN => k_asm); (case zzzm => k_mem); (case zzzc => rfl); (case zzzd => rfl); intro zziq zzl1; (try k_lt zzl1); (revert zziq zzl1; intro _ _))))
  (k_with "pyIter ref!" => (k_here; (with_reducible show wpAny _ _ (pyIter (Value.ref _)) (fun it s₂ => TurnsAt _ _ _ _ _ _ _ _ _ it s₂) _ _); k_dflt (refine' iter_tupTurns (vs := [_, _, _]) ?zzzh ?zzzF ?zzzN ?zzzm ?zzzc ?zzzd ?_; (case zzzh => rfl); (case zzzF => k_asm); (case zzzN => k_asm); (case zzzm => k_mem); (case zzzc => rfl); (case zzzd => rfl); intro zziq zzl1; (try k_lt zzl1); (revert zziq zzl1; intro _ _))))
  (k_with "UnrEndW!" => (k_here; k_dflt (refine' unrEnd ?zzzF ?zzzN ?zzzne ?zzzk ?_; (case zzzF => k_asm); (case zzzN => k_asm); (case zzzne => k_all); (case zzzk => k_mem))))
  (k_with "subscriptTail Name Constant ref str!" => (k_here; (with_reducible show wpAny _ _ (subscriptTail _ _ (Value.ref _) (Value.str _ _)) _ _ _); k_dflt (refine' kda_item (knd := PySem.strKind _ _) ?zzzN ?zzzp ?zzzd (strKind_is _ _ _ _) ?zzzl ?_; (case zzzN => k_asm); (case zzzp => k_mem); (case zzzd => k_asm); (case zzzl => rfl))))
  (k_with "ItemsRest!" => (k_here; k_dflt ((with_unfolding_all refine ItemsRest.zero (fun zzhq zztkq zzFq zzNq => ?_)); (try dsimp only [envOf] at zzFq zzNq); (revert zzhq zztkq zzFq zzNq; intro _ _ _ _); (try dsimp only); (try ((with_reducible refine wp_gen fun _ => ?_); (try dsimp only))))))
  (k_with "newTuple!" => (k_here; k_dflt (refine' kup_newTuple ?zzzF ?zzzN ?_ ?zzzz; (case zzzF => k_asm); (case zzzN => k_asm); (case zzzz => kmk_size)); intro zzDq zzhq zzFq zzNq zzl1; (try k_lt zzl1); (revert zzDq zzhq zzFq zzNq zzl1; intro _ _ _ _ _); (try k_sweep)))
  (k_with "call builtin:list.pop!" => (k_here; (with_reducible show wpAny _ _ (call (Value.builtin _) [Value.ref _, Value.int _ _]) _ _ _); k_dflt (refine' pop0 ?zzzF ?zzzN ?zzza ?zzzz (fun _ _ _ => ?_); (case zzzF => k_asm); (case zzzN => k_asm); (case zzza => assumption); (case zzzz => omega))))
  trivial
open PySem PySem.W PyProof.Rows PySem.Spec PySem.Calls
set_option maxRecDepth 100000
set_option maxHeartbeats 8000000
/-- a list of ints -/
noncomputable def intsV (xs : List (Int × Tok)) : List Value := xs.map fun p => .int p.1 p.2
section
variable {w : World} {mean : ExcName → Option Value} {mg mb : Str → Option Value} {dp un : Nat} {gd : Option (List Code)} {cn : Str} {cs : Scope} {a : Addr} {ccd : Value} {cl : List (Str × Addr)} {outer : List Env} {A₀ : Around} {base h₀ : Heap} {L : Addr} {m : Str → Option Value} {s : Shared} {Q E : Value → Shared → Prop}
  {r : List (Addr × Obj)} {pl : Addr} {xs : List (Int × Tok)} {n : Nat} {many : Int} {tm : Tok}
theorem pop0 {y : Value} {us : List Value} {D : Addr} {u : Tok} {A : Around} {c : Nat} (F : Fr h₀ L s.heap m) (N : News h₀ L s.heap ((D, W.listOf (y :: us).toArray c) :: r)) (hne : ∀ p ∈ r, p.1 ≠ D) (hz : us.length < 1000)
    (h : ∀ h', Fr h₀ L h' m → News h₀ L h' ((D, W.listOf us.toArray (c + 1)) :: r) → Q y { s with heap := h' }) : wpAny (model PG w) A (call (.builtin "list.pop") [.ref D, .int 0 u]) Q E s := by
  refine kl_popAt (k := 0) (p := []) (q := us) (y := y) F N rfl ?_ ?_ (Upd.head hne) ?_ h
  · unfold seqIndex?
    simp
  · rfl
  · rw [sizeLine_eq]; simp; omega
theorem take0_c (C : Cx w mean mg mb dp un cs A₀ base outer h₀ 5) (F : Fr h₀ L s.heap m) (N : News h₀ L s.heap ((pl, W.listOf (intsV xs).toArray n) :: r)) (hne : ∀ p ∈ r, p.1 ≠ pl) (hm : 0 < many) (hm2 : many < 100) (hlen : xs.length < 100)
  (ret : ∀ h' tk' xs' n' d t, Fr h₀ L h' m → News h₀ L h' ((pl, W.listOf (intsV xs').toArray n') :: r) → 0 ≤ d → d < many → xs'.length ≤ xs.length → Q (.int d t) { s with heap := h', toks := tk' }) :
  wpAny (model PG w) (ktrTop dp un gd cn cs L a ccd cl outer) (call (.ref 243) [.ref pl, .int many tm]) Q E s := by
  obtain ⟨B, X, T, hk, hd, hu⟩ := C
  have hMk := kstMark
  cases xs with
  | nil =>
    have N : News h₀ L s.heap ((pl, W.listOf (List.toArray []) n) :: r) := N
    refine wpAny_call ?_
    k_dflt ktr_enter
    k_steps
    exact ret _ _ [] _ _ _ (by assumption) (by assumption) (Int.le_refl _) hm (Nat.le_refl _)
  | cons x xs =>
    obtain ⟨x, tx⟩ := x
    have N : News h₀ L s.heap ((pl, W.listOf (List.toArray (.int x tx :: intsV xs)) n) :: r) := N
    have hl : (intsV xs).length = xs.length := List.length_map ..
    have hl2 : (intsV xs).length < 100 := by rw [hl]; simp only [List.length_cons] at hlen; omega
    refine wpAny_call ?_
    k_dflt ktr_enter
    k_steps
    · exfalso
      have h0 : ((Value.int x tx :: intsV xs).length : Int) = 0 := by assumption
      rw [List.length_cons] at h0; omega
    · rename_i kN _ _
      exact ret _ _ xs _ _ _ (by assumption) kN (Int.fmod_nonneg_of_pos _ hm) (Int.fmod_lt_of_pos _ hm) (Nat.le_succ _)
    · rename_i kN _ _
      refine ret _ _ ((_, _) :: xs) _ _ _ ?_ kN (Int.fmod_nonneg_of_pos _ hm) (Int.fmod_lt_of_pos _ hm) ?_
      · assumption
      · exact Nat.le_refl (xs.length + 1)
theorem take_u {news : List (Addr × Obj)} {g : Obj → List (Addr × Obj)} (C : Cx w mean mg mb dp un cs A₀ base outer h₀ 5) (F : Fr h₀ L s.heap m) (N : News h₀ L s.heap news) (U : UpdF pl (W.listOf (intsV xs).toArray n) news g) (hm : 0 < many) (hm2 : many < 100) (hlen : xs.length < 100)
  (ret : ∀ h' tk' xs' n' d t, Fr h₀ L h' m → News h₀ L h' (g (W.listOf (intsV xs').toArray n')) → 0 ≤ d → d < many → xs'.length < 100 → Q (.int d t) { s with heap := h', toks := tk' }) :
  wpAny (model PG w) (ktrTop dp un gd cn cs L a ccd cl outer) (call (.ref 243) [.ref pl, .int many tm]) Q E s := by
  obtain ⟨pre, post, rfl, hg, ha, hb⟩ := U.split
  refine take0_c (r := pre ++ post) (n := n) C F (fun p hp => N p ?_) (fun p hp => ?_) hm hm2 hlen fun h' tk' xs' n' d t F' N' h1 h2 h3 => ret h' tk' xs' n' d t F' (fun p hp => N' p ?_) h1 h2 (Nat.lt_of_le_of_lt h3 hlen)
  · simp only [List.mem_cons, List.mem_append] at hp ⊢
    rcases hp with h | h | h <;> simp [h]
  · rcases List.mem_append.mp hp with h | h
    · exact ha p h
    · exact hb p h
  · rw [hg] at hp
    simp only [List.mem_cons, List.mem_append] at hp ⊢
    rcases hp with h | h | h <;> simp [h]
end
end

section
theorem start_Fo : True := by
  w_top off
  k_with_none
  (k_with "k_room!" => (((try simp only [depth_under_make, depth_under_kw, depth_in1, depth_deeper, depth_caller]); (try dsimp only [ktrTop]); omega)))
  (k_with "ktr_room!" => (((try simp only [depth_under_make, depth_under_kw, depth_in1, depth_deeper, depth_caller]); (try dsimp only [ktrTop]); omega)))
  (k_with "ktr_units!" => (((try simp only [units_in1, units_deeper, Around.mark_units, units_caller]); (try dsimp only [ktrTop]); omega)))
  (k_with "ktr_rel!" => (first | k_asm | exact rot1 (by k_asm) | exact rot2 (by k_asm) | exact rot3 (by k_asm)))
  (k_with "tb_rel!" => (first | k_asm | exact fun _ h => h | (intro p hp; k_mem)))
  (k_with "size_fits!" => (((try simp only [List.size_toArray, List.length_append, List.length_cons, List.length_nil, PySem.sizeLine_eq]); omega)))
  trivial
open PySem PySem.W PyProof.Rows PySem.Spec PySem.Calls PyProof.V
set_option maxRecDepth 100000
section
variable {prog : Program} {w : World} {A : Around} {E : Value → Shared → Prop} {Q : Flow → Shared → Prop} {s : Shared} {env : Env} {h₀ : Heap} {L : Addr} {m : Str → Option Value} {target : PySem.Expr} {body : List Stmt}
/-- what a turn leaves behind -/
noncomputable def FStep (h₀ : Heap) (L I : Addr) (it : Obj) (s : Shared) (Jn : (Str → Option Value) → List (Addr × Obj) → Prop) (Q : Flow → Shared → Prop) (f : Flow) (s₃ : Shared) : Prop :=
  match f with
  | .ret v => Q (.ret v) s₃
  | .brk => Q .next s₃
  | .next | .cont => ∃ h' tk m' n', s₃ = { s with heap := h', toks := tk } ∧ Fr h₀ L h' m' ∧ News h₀ L h' ((I, it) :: n') ∧ (∀ p ∈ n', p.1 ≠ I) ∧ Jn m' n'
theorem FStep.next {I : Addr} {it : Obj} {Jn : (Str → Option Value) → List (Addr × Obj) → Prop} {h' : Heap} {tk : Nat} {m' : Str → Option Value} {n' : List (Addr × Obj)} (F : Fr h₀ L h' m') (N : News h₀ L h' ((I, it) :: n')) (hne : ∀ p ∈ n', p.1 ≠ I) (hJ : Jn m' n') :
    FStep h₀ L I it s Jn Q .next { s with heap := h', toks := tk } := ⟨h', tk, m', n', rfl, F, N, hne, hJ⟩
theorem FStep.cont {I : Addr} {it : Obj} {Jn : (Str → Option Value) → List (Addr × Obj) → Prop} {h' : Heap} {tk : Nat} {m' : Str → Option Value} {n' : List (Addr × Obj)} (F : Fr h₀ L h' m') (N : News h₀ L h' ((I, it) :: n')) (hne : ∀ p ∈ n', p.1 ≠ I) (hJ : Jn m' n') :
    FStep h₀ L I it s Jn Q .cont { s with heap := h', toks := tk } := ⟨h', tk, m', n', rfl, F, N, hne, hJ⟩
theorem for_core {I : Addr} {fp : List Addr} {n : Nat} {P : Nat → Value → Prop} {St : Nat → Heap → Prop} {keep : List (Addr × Obj)} {m₀ : Str → Option Value} {news : List (Addr × Obj)} {hp : Heap} {tk0 : Nat}
    (W : Walks prog w A I fp [I] n P St) (hgo : ∀ i v (s : Shared) (Q : Unit → Shared → Prop) (E : Value → Shared → Prop), St i s.heap → Q () s → wpAny (model prog w) A (letOwnedTupleGo target (.ref I) v) Q E s)
    (hobj : ∀ i h, St i h → ∃ it, h.get? I = some it) (hfp : ∀ b ∈ fp, b = I ∨ ∃ o, (b, o) ∈ keep) (hI : I ∈ fp) (hIn : h₀.get? I = none) (hL : env.locals ∉ fp) (hnw : ∀ p ∈ news, p.1 ≠ I) (hst : St 0 hp)
    (F : Fr h₀ env.locals hp m₀) (N : News h₀ env.locals hp news)
    (J : Nat → (Str → Option Value) → List (Addr × Obj) → Prop) (hJk : ∀ i m n', J i m n' → ∀ p ∈ keep, p ∈ n') (h0 : J 0 m₀ news)
    (step : ∀ i v m₁ n₁ h₁ tk₁ it, i < n → P i v → J i m₁ n₁ → (∀ p ∈ n₁, p.1 ≠ I) → Fr h₀ env.locals h₁ m₁ → News h₀ env.locals h₁ ((I, it) :: n₁) →
      wpAny (model prog w) A (assign target env v) (fun _ s₃ => wpAny (model prog w) A (execs body env) (FStep h₀ env.locals I it { s with heap := h₁, toks := tk₁ } (J (i + 1)) Q) E s₃) E { s with heap := h₁, toks := tk₁ })
    (done : ∀ h' tk m' n', Fr h₀ env.locals h' m' → News h₀ env.locals h' n' → J n m' n' → Q .next { s with heap := h', toks := tk }) :
    TurnsAt prog w A h₀ env target body Q E (.ref I) { s with heap := hp, toks := tk0 } := by
  refine ⟨I, fp, [I], n, _, _, _, m₀, news, J, rfl, KTurns.ofWalks W hgo, hL, ?_, ?_, hst, F, N, h0, ?_, ?_⟩
  · intro b hb
    rw [List.mem_singleton.mp hb]
    exact hIn
  · intro p hp hI
    exact hnw p hp (List.mem_singleton.mp hI)
  · intro i v m₁ n₁ h₁ tk₁ own hin hPi hJ hoff hown hget hall hst₁ F₁ N₁
    obtain ⟨it, hit⟩ := hobj _ _ hst₁
    have hne : ∀ p ∈ n₁, p.1 ≠ I := fun p hp e => hoff p hp (List.mem_singleton.mpr e)
    have hIo : (I, it) ∈ own := hall I hI hIn it hit
    have N₂ : News h₀ env.locals h₁ ((I, it) :: n₁) := fun p hp => by
      rcases List.mem_cons.mp hp with rfl | hp
      · exact N₁ _ (List.mem_append_left _ hIo)
      · exact N₁ _ (List.mem_append_right _ hp)
    have fin : ∀ s₃, (∃ h' tk m' n', s₃ = { s with heap := h', toks := tk } ∧ Fr h₀ env.locals h' m' ∧ News h₀ env.locals h' ((I, it) :: n') ∧ (∀ p ∈ n', p.1 ≠ I) ∧ J (i + 1) m' n') →
        LoopStepU h₀ env.locals [I] own (J (i + 1)) { s with heap := h₁, toks := tk₁ } .next s₃ := by
      rintro s₃ ⟨h', tk, m', n', e, F', N', ho, hj⟩
      refine ⟨rfl, h', tk, m', n', e, F', ?_, fun p hp hI => ho p hp (List.mem_singleton.mp hI), hj⟩
      rintro ⟨pa, po⟩ hp
      rcases List.mem_append.mp hp with hp | hp
      · have h2 : h₁.get? pa = some po := hget _ hp
        rcases hfp pa (hown _ hp) with h3 | ⟨o, h3⟩
        · subst h3
          have : it = po := Option.some.inj (hit.symm.trans h2)
          subst this
          exact N' _ (.head _)
        · have h4 : h₁.get? pa = some o := (N₁ _ (List.mem_append_right _ (hJk _ _ _ hJ _ h3))).1
          have h6 : o = po := Option.some.inj (h4.symm.trans h2)
          subst h6
          exact N' _ (List.mem_cons_of_mem _ (hJk _ _ _ hj _ h3))
      · exact N' _ (List.mem_cons_of_mem _ hp)
    refine wpAny_mono (step i v m₁ n₁ h₁ tk₁ it hin hPi hJ hne F₁ N₂) (fun _ s₂ h₂ => wpAny_mono h₂ (fun f s₃ p => ?_) fun _ _ e => e) fun _ _ e => e
    cases f with
    | ret v => exact .ret p
    | brk => exact .brk p
    | next => exact .next (fin _ p)
    | cont => exact .cont (fin _ p)
  · intro h' tk m' n' F' N' _ hJ
    exact done h' tk m' n' F' N' hJ
theorem for_list {ax : Addr} {lo : Obj} {vs : List Value} {c : Nat} {m₀ : Str → Option Value} {news : List (Addr × Obj)}
    (hh : A.handled = none) (F : Fr h₀ env.locals s.heap m₀) (N : News h₀ env.locals s.heap news) (hm : (ax, lo) ∈ news) (hc : lo.cls = .type "list") (hd : lo.data = .seq vs.toArray c)
    (J : Nat → (Str → Option Value) → List (Addr × Obj) → Prop) (hJk : ∀ i m n', J i m n' → (ax, lo) ∈ n') (h0 : J 0 m₀ news)
    (step : ∀ I i v m₁ n₁ h₁ tk₁ it, vs[i]? = some v → J i m₁ n₁ → (∀ p ∈ n₁, p.1 ≠ I) → (∀ p ∈ news, p.1 < I) → Fr h₀ env.locals h₁ m₁ → News h₀ env.locals h₁ ((I, it) :: n₁) →
      wpAny (model prog w) A (assign target env v) (fun _ s₃ => wpAny (model prog w) A (execs body env) (FStep h₀ env.locals I it { s with heap := h₁, toks := tk₁ } (J (i + 1)) Q) E s₃) E { s with heap := h₁, toks := tk₁ })
    (done : ∀ h' tk m' n', Fr h₀ env.locals h' m' → News h₀ env.locals h' n' → J vs.length m' n' → Q .next { s with heap := h', toks := tk }) :
    wpAny (model prog w) A (pyIter (.ref ax)) (fun it s₂ => TurnsAt prog w A h₀ env target body Q E it s₂) E s := by
  have hax := N _ hm
  have hl : s.heap.IsList ax vs.toArray := ⟨lo, hax.1, hc, c, hd⟩
  have hlt : ax < s.heap.objs.size := Heap.lt_size hax.1
  have hne : ax ≠ s.heap.objs.size := Nat.ne_of_lt hlt
  refine wpAny_pyIter_list hl ?_
  refine for_core (tk0 := s.toks) (keep := [(ax, lo)]) (Walks.list hh s.heap.objs.size ax hne vs.toArray) (fun i v s Q E st q => letGo_listiter st.1 q) (fun i h st => ?_) (fun b hb => ?_) (List.mem_cons_self ..) (next_is_new F) ?_ (fun p hp => Nat.ne_of_lt (Heap.lt_size (N p hp).1)) ?_ (F.push _) (fun p hp => ⟨Heap.get?_push_of_some _ (N p hp).1, (N p hp).2⟩) J (fun i m n' h p hp => by rw [List.mem_singleton.mp hp]; exact hJk i m n' h) h0 (fun i v m₁ n₁ h₁ tk₁ it hi hP hJ hn F N' => step _ i v m₁ n₁ h₁ tk₁ it ?_ hJ hn (fun p hp => Heap.lt_size (N p hp).1) F N') (fun h' tk m' n' F N hJ => done h' tk m' n' F N (by simpa using hJ))
  · obtain ⟨it, hit, hic, _⟩ := st.1
    exact ⟨it, hit⟩
  · have hb' : b = s.heap.objs.size ∨ b = ax := by simpa using hb
    rcases hb' with e | e
    · exact .inl e
    · exact .inr ⟨lo, by simp [e]⟩
  · intro hI
    rcases List.mem_cons.mp hI with e | hI
    · exact absurd F.ns.lt (e ▸ Nat.lt_irrefl _)
    · exact hax.2.1 (List.mem_singleton.mp hI).symm
  · exact ⟨⟨_, Heap.get?_push_size _ rfl, rfl, rfl⟩, hl.at fun o e => Heap.get?_push_of_some _ e⟩
  · have hp' : vs.toArray[i]? = some v := hP
    simpa using hp'
theorem for_tup {ax : Addr} {lo : Obj} {vs : List Value} {c : Nat} {m₀ : Str → Option Value} {news : List (Addr × Obj)}
    (hh : A.handled = none) (F : Fr h₀ env.locals s.heap m₀) (N : News h₀ env.locals s.heap news) (hm : (ax, lo) ∈ news) (hc : lo.cls = .type "tuple") (hd : lo.data = .seq vs.toArray c)
    (J : Nat → (Str → Option Value) → List (Addr × Obj) → Prop) (hJk : ∀ i m n', J i m n' → (ax, lo) ∈ n') (h0 : J 0 m₀ news)
    (step : ∀ I i v m₁ n₁ h₁ tk₁ it, vs[i]? = some v → J i m₁ n₁ → (∀ p ∈ n₁, p.1 ≠ I) → (∀ p ∈ news, p.1 < I) → Fr h₀ env.locals h₁ m₁ → News h₀ env.locals h₁ ((I, it) :: n₁) →
      wpAny (model prog w) A (assign target env v) (fun _ s₃ => wpAny (model prog w) A (execs body env) (FStep h₀ env.locals I it { s with heap := h₁, toks := tk₁ } (J (i + 1)) Q) E s₃) E { s with heap := h₁, toks := tk₁ })
    (done : ∀ h' tk m' n', Fr h₀ env.locals h' m' → News h₀ env.locals h' n' → J vs.length m' n' → Q .next { s with heap := h', toks := tk }) :
    wpAny (model prog w) A (pyIter (.ref ax)) (fun it s₂ => TurnsAt prog w A h₀ env target body Q E it s₂) E s := by
  have hax := N _ hm
  have hl : s.heap.IsTuple ax vs.toArray := ⟨lo, hax.1, hc, c, hd⟩
  have hlt : ax < s.heap.objs.size := Heap.lt_size hax.1
  have hne : ax ≠ s.heap.objs.size := Nat.ne_of_lt hlt
  refine wpAny_pyIter_tuple hl ?_
  refine for_core (tk0 := s.toks) (keep := [(ax, lo)]) (Walks.tuple hh s.heap.objs.size ax hne vs.toArray) (fun i v s Q E st q => letGo_tupleiter st.1 q) (fun i h st => ?_) (fun b hb => ?_) (List.mem_cons_self ..) (next_is_new F) ?_ (fun p hp => Nat.ne_of_lt (Heap.lt_size (N p hp).1)) ?_ (F.push _) (fun p hp => ⟨Heap.get?_push_of_some _ (N p hp).1, (N p hp).2⟩) J (fun i m n' h p hp => by rw [List.mem_singleton.mp hp]; exact hJk i m n' h) h0 (fun i v m₁ n₁ h₁ tk₁ it hi hP hJ hn F N' => step _ i v m₁ n₁ h₁ tk₁ it ?_ hJ hn (fun p hp => Heap.lt_size (N p hp).1) F N') (fun h' tk m' n' F N hJ => done h' tk m' n' F N (by simpa using hJ))
  · obtain ⟨it, hit, hic, _⟩ := st.1
    exact ⟨it, hit⟩
  · have hb' : b = s.heap.objs.size ∨ b = ax := by simpa using hb
    rcases hb' with e | e
    · exact .inl e
    · exact .inr ⟨lo, by simp [e]⟩
  · intro hI
    rcases List.mem_cons.mp hI with e | hI
    · exact absurd F.ns.lt (e ▸ Nat.lt_irrefl _)
    · exact hax.2.1 (List.mem_singleton.mp hI).symm
  · exact ⟨⟨_, Heap.get?_push_size _ rfl, rfl, rfl⟩, hl.at fun o e => Heap.get?_push_of_some _ e⟩
  · have hp' : vs.toArray[i]? = some v := hP
    simpa using hp'
theorem for_range {r : Addr} {b : Int} {t u v : Tok} {n : Nat} {m₀ : Str → Option Value} {news : List (Addr × Obj)}
    (hh : A.handled = none) (hr : IsRange s.heap r 0 b 1 t u v) (hb : b = (n : Int)) (hn : n < 1000) (hgo : ∀ x v, letOwnedTupleGo target x v = pure ()) (F : Fr h₀ env.locals s.heap m₀) (N : News h₀ env.locals s.heap news)
    (J : Nat → (Str → Option Value) → List (Addr × Obj) → Prop) (h0 : J 0 m₀ news)
    (step : ∀ I i t m₁ n₁ h₁ tk₁ it, i < n → J i m₁ n₁ → (∀ p ∈ n₁, p.1 ≠ I) → (∀ p ∈ news, p.1 < I) → Fr h₀ env.locals h₁ m₁ → News h₀ env.locals h₁ ((I, it) :: n₁) →
      wpAny (model prog w) A (assign target env (.int (i : Int) t)) (fun _ s₃ => wpAny (model prog w) A (execs body env) (FStep h₀ env.locals I it { s with heap := h₁, toks := tk₁ } (J (i + 1)) Q) E s₃) E { s with heap := h₁, toks := tk₁ })
    (done : ∀ h' tk m' n', Fr h₀ env.locals h' m' → News h₀ env.locals h' n' → J n m' n' → Q .next { s with heap := h', toks := tk }) :
    wpAny (model prog w) A (pyIter (.ref r)) (fun it s₂ => TurnsAt prog w A h₀ env target body Q E it s₂) E s := by
  subst hb
  have hn' : Builtin.Range.rangeSize 0 (n : Int) 1 = (n : Int) := by rw [rangeSize_one]; split <;> omega
  have hsm : Builtin.Range.small 0 (n : Int) 1 = true := small_one (by decide) (by decide) (by omega) (by omega)
  refine wpAny_pyIter_range hr hsm ?_
  refine for_core (tk0 := s.toks) (keep := []) (Walks.range hh s.heap.objs.size 0 1 n) (fun i v s Q E st q => by rw [hgo]; exact wpAny_pure q) (fun i h st => ⟨_, st⟩) (fun b hb => .inl (List.mem_singleton.mp hb)) (List.mem_cons_self ..) (next_is_new F) ?_ (fun p hp => Nat.ne_of_lt (Heap.lt_size (N p hp).1)) (by show IsRangeIter _ _ _ _ _; rw [hn']; simpa using Heap.get?_push_size _ rfl) (F.push _) (fun p hp => ⟨Heap.get?_push_of_some _ (N p hp).1, (N p hp).2⟩) J (fun i m n' h p hp => nomatch hp) h0 (fun i v m₁ n₁ h₁ tk₁ it hi hP hJ hn F N' => ?_) (fun h' tk m' n' F N hJ => done h' tk m' n' F N hJ)
  · intro hI
    exact absurd F.ns.lt ((List.mem_singleton.mp hI) ▸ Nat.lt_irrefl _)
  · obtain ⟨t, rfl⟩ := hP
    have e : (0 : Int) + (i : Int) * 1 = (i : Int) := by omega
    rw [e]
    exact step _ i t m₁ n₁ h₁ tk₁ it hi hJ hn (fun p hp => Heap.lt_size (N p hp).1) F N'
end
end

section
theorem start_Cm : True := by
  w_top off
  k_with_none
  (k_with "k_room!" => (((try simp only [depth_under_make, depth_under_kw, depth_in1, depth_deeper, depth_caller]); (try dsimp only [ktrTop]); omega)))
  (k_with "ktr_room!" => (((try simp only [depth_under_make, depth_under_kw, depth_in1, depth_deeper, depth_caller]); (try dsimp only [ktrTop]); omega)))
  (k_with "ktr_units!" => (((try simp only [units_in1, units_deeper, Around.mark_units, units_caller]); (try dsimp only [ktrTop]); omega)))
  (k_with "ktr_rel!" => (first | k_asm | exact rot1 (by k_asm) | exact rot2 (by k_asm) | exact rot3 (by k_asm)))
  (k_with "tb_rel!" => (first | k_asm | exact fun _ h => h | (intro p hp; k_mem)))
  (k_with "size_fits!" => (((try simp only [List.size_toArray, List.length_append, List.length_cons, List.length_nil, PySem.sizeLine_eq]); omega)))
  trivial
open PySem PySem.W PyProof.Rows PySem.Spec PySem.Calls PyProof.V PyProof.Rows.LCg PyProof.Rows.LCt
set_option maxRecDepth 100000
set_option maxHeartbeats 2000000
section
variable {prog : Program} {w : World} {A : Around} {E : Value → Shared → Prop} {s : Shared} {h₀ : Heap} {L : Addr} {m : Str → Option Value} {env : Env}
theorem CompEnd.mono {s₁ s₂ : Shared} {I C D : Addr} {oI oC oD : Obj} {S : List (Addr × Obj) → Prop} {r r' : Value → List (Addr × Obj) → Prop} {y : Value} (h : CompEnd h₀ L m s₁ I oI C oC D oD S r y s₂) (k : ∀ y n, r y n → r' y n) : CompEnd h₀ L m s₁ I oI C oC D oD S r' y s₂ :=
  let ⟨h', tk, n', a, b, c, d, e, f⟩ := h; ⟨h', tk, n', a, b, c, d, e, k _ _ f⟩
theorem compT_ind {ct elt : PySem.Expr} {x : Str} {scope : Scope} {cl : List (Str × Addr)} {S : List (Addr × Obj) → Prop} {P : Nat → Value → Prop} {Fin : List Value → List (Addr × Obj) → Prop} (n : Nat) (J : Nat → List Value → List (Addr × Obj) → Prop)
    (turn : ∀ i ys news v I oI C oC D m₂ h tk (E' : Value → Shared → Prop), i < n → J i ys news → P i v → NsObj oC m₂ → m₂ x = some v → Fr h₀ L h m → News h₀ L h ((I, oI) :: (C, oC) :: (D, lst ys) :: news) → Off3 I C D news → ((@Ne Nat I C) ∧ (@Ne Nat I D) ∧ (@Ne Nat C D)) →
      wpAny (model prog w) A (isTrue ct (compEnvC scope cl C env) (eval ct (compEnvC scope cl C env))) (fun ok s' => if ok = true then
        wpAny (model prog w) A (eval elt (compEnvC scope cl C env)) (CompEnd h₀ L m { s with heap := h, toks := tk } I oI C oC D (lst ys) S (fun y news' => J (i + 1) (ys ++ [y]) news')) E' s'
        else CompEnd h₀ L m { s with heap := h, toks := tk } I oI C oC D (lst ys) S (fun _ news' => J (i + 1) ys news') Value.none s') E' { s with heap := h, toks := tk })
    (fin : ∀ ys news, J n ys news → Fin ys news) : ∀ k i ys news, i + k = n → J i ys news → CompRestT prog w A h₀ L m env ct elt x scope cl s S P Fin k i ys news
  | 0, i, ys, news, hi, hJ => fin ys news (by have : i = n := hi; exact this ▸ hJ)
  | k + 1, i, ys, news, hi, hJ => CompRestT.succ fun v I oI C oC D m₂ h tk E' p1 p2 p3 p4 p5 p6 p7 => by
    refine wpAny_mono (turn i ys news v I oI C oC D m₂ h tk E' (by omega) hJ p1 p2 p3 p4 p5 p6 p7) (fun ok s' q => ?_) fun _ _ e => e
    cases ok with
    | true =>
      simp only [if_true] at q ⊢
      exact wpAny_mono q (fun y s₂ r => CompEnd.mono r fun y n' j => compT_ind n J turn fin k _ _ _ (by omega) j) fun _ _ e => e
    | false =>
      simp only [Bool.false_eq_true, if_false] at q ⊢
      exact CompEnd.mono q fun _ n' j => compT_ind n J turn fin k _ _ _ (by omega) j
theorem compU_ind {elt : PySem.Expr} {x : Str} {scope : Scope} {cl : List (Str × Addr)} {S : List (Addr × Obj) → Prop} {P : Nat → Value → Prop} {Fin : List Value → List (Addr × Obj) → Prop} (n : Nat) (J : Nat → List Value → List (Addr × Obj) → Prop)
    (turn : ∀ i ys news v I oI C oC D m₂ h tk (E' : Value → Shared → Prop), i < n → J i ys news → P i v → NsObj oC m₂ → m₂ x = some v → Fr h₀ L h m → News h₀ L h ((I, oI) :: (C, oC) :: (D, lst ys) :: news) → Off3 I C D news → ((@Ne Nat I C) ∧ (@Ne Nat I D) ∧ (@Ne Nat C D)) →
        wpAny (model prog w) A (eval elt (compEnvC scope cl C env)) (CompEnd h₀ L m { s with heap := h, toks := tk } I oI C oC D (lst ys) S (fun y news' => J (i + 1) (ys ++ [y]) news')) E' { s with heap := h, toks := tk })
    (fin : ∀ ys news, J n ys news → Fin ys news) : ∀ k i ys news, i + k = n → J i ys news → CompRest prog w A h₀ L m env elt x scope cl s S P Fin k i ys news
  | 0, i, ys, news, hi, hJ => fin ys news (by have : i = n := hi; exact this ▸ hJ)
  | k + 1, i, ys, news, hi, hJ => CompRest.succ fun v I oI C oC D m₂ h tk E' p1 p2 p3 p4 p5 p6 p7 => by
    exact wpAny_mono (turn i ys news v I oI C oC D m₂ h tk E' (by omega) hJ p1 p2 p3 p4 p5 p6 p7) (fun y s₂ r => CompEnd.mono r fun y n' j => compU_ind n J turn fin k _ _ _ (by omega) j) fun _ _ e => e
theorem tup_st {ax I : Addr} {its : Array Value} (hb : h₀.IsTuple ax its) : ∀ i (h h' : Heap) (o : Obj) (nw : List (Addr × Obj)), (h.IsTupleIter I ax i ∧ h.IsTuple ax its) → h.get? I = some o → h'.get? I = some o → (∀ b o, h₀.get? b = some o → h'.get? b = some o) → News h₀ L h' nw → True → (h'.IsTupleIter I ax i ∧ h'.IsTuple ax its) :=
  fun i h h' o nw st e e' k _ _ => ⟨by obtain ⟨o', q, r⟩ := st.1; rw [e] at q; cases q; exact ⟨o, e', r⟩, by obtain ⟨o', q, r⟩ := hb; exact ⟨o', k _ _ q, r⟩⟩
/-- y = [elt for x in a written tuple of the ground if test] -/
theorem Assign_ListComp_Tt {ct elt iter : PySem.Expr} {x y : Str} {px py : Pos} {scope : Scope} {cl : List (Str × Addr)} {pos spos : Pos} {Q : Flow → Shared → Prop} (F₀ : Fr h₀ L s.heap m) (hLe : env.locals = L)
    (hsw : swapsWith (.ListComp elt [⟨.Name x px, iter, [ct], 0⟩] scope pos) (some (.Name y py)) spos.line env = pure true)
    (hclos : closureFor scope env = pure cl) (hcell : ∀ z ∈ scope.names, z.2 ≠ .cell) (hkind : scope.kind = .function)
    (hnames : ∀ z ∈ scope.names, z.2 = .local → scope.names.lookup z.1 = some .local) (hx : scope.names.lookup x = some .local)
    (hy : env.kindOf y = some .local) (hp : (env.scope.kind == .class || (env.scope.kind == .module && env.locals != env.globals)) = false)
    (h : wpAny (model prog w) A (eval iter env) (fun xv s₁ => ∃ ax its news, xv = .ref ax ∧ A.handled = none ∧ Fr h₀ L s₁.heap m ∧ News h₀ L s₁.heap news ∧ h₀.IsTuple ax its ∧ its.size ≤ sizeLine ∧
      ∀ s₂ : Shared, (∃ h, s₂ = { s₁ with heap := h }) → CompRestT prog w A h₀ L m env ct elt x scope cl s₂ (fun _ => True) (fun i v => its[i]? = some v) (FinA h₀ L m s₂ y Q) its.size 0 [] news) E s)
    (hs : ∀ x, foldedSetIterable iter env x = pure x := by intro _; rfl) :
    wpAny (model prog w) A (exec (.Assign [.Name y py] (.ListComp elt [⟨.Name x px, iter, [ct], 0⟩] scope pos) spos) env) Q E s := by
  subst hLe
  rw [exec_Assign_Name_used _ _ _ _ hsw]
  refine wpAny_bind (wpAny_standAt (wpAny_bind ?_))
  show wpAny _ A (do let _ ← comprehension (.ListComp elt [⟨.Name x px, iter, [ct], 0⟩] scope pos) scope env _ (newList []) false (eval iter env) (some (assign (.Name y py) env))) _ _ s
  refine wpAny_bind (wpAny_mono (wpAny_comprehension_free (use := some (assign (.Name y py) env)) (Q := fun _ s' => Q .next s') rfl hs hclos hkind hnames
    (wpAny_mono h (fun xv s₁ h₁ => ?_) fun _ _ e => e)) (fun _ s' hq => wpAny_pure (wpAny_pure hq)) fun _ _ e => e)
  obtain ⟨ax, its, news, rfl, hh, F, N, hb, hsz, R⟩ := h₁
  have hl : s₁.heap.IsTuple ax its := by obtain ⟨o', q, r⟩ := hb; exact ⟨o', F.keep _ _ q, r⟩
  have hlt : ax < s₁.heap.objs.size := by obtain ⟨_, e, _⟩ := hl; exact Heap.lt_size e
  refine wpAny_pyIter_tuple hl ?_
  have up : ∀ b o, s₁.heap.get? b = some o → (s₁.heap.push { cls := .type "tuple_iterator", data := .fields #[.ref ax, .int 0 0] }).get? b = some o := fun b o e => Heap.get?_push_of_some _ e
  refine block_T (Walks.tuple hh s₁.heap.objs.size ax (Nat.ne_of_lt hlt) its) hsz (fun i h st => by obtain ⟨o, e, _⟩ := st.1; exact ⟨o, e⟩) (tup_st hb) hcell hkind hx ⟨⟨_, Heap.get?_push_size _ rfl, rfl, rfl⟩, hl.at fun o e => up _ _ e⟩ (fun b hb => ?_)
    (F.keeps up) (N.grown up) (Nat.ne_of_lt F.ns.lt) (next_is_new F) (fun p hp => Nat.ne_of_lt (Heap.lt_size (N p hp).1)) trivial (R _ ⟨_, rfl⟩) ?_
  · show b < (s₁.heap.push _).objs.size
    rw [Heap.size_push]
    rcases List.mem_cons.mp hb with rfl | hb
    · exact Nat.lt_succ_self _
    · rw [List.mem_singleton.mp hb]; exact Nat.lt_succ_of_lt hlt
  · intro D C h' tk m' ys news' F' N' o1 hn hC₀ hD₀ hCL hDL hCD offC fin
    show wpAny _ A (assign (.Name y py) env (.ref D)) _ _ _
    refine wpAny_assign_Name (wpAny_storeName_local hy F'.ns (fun h₂ hn₂ hs₂ => ?_) hp)
    have hL₀ : h₀.get? env.locals = none := Heap.get?_none_of_le F'.above
    have F₂ : Fr h₀ env.locals h₂ (fun z => if z = y then some (.ref D) else m z) := ⟨hn₂, fun b o e => hs₂.extBut b o (fun q => by rw [q, hL₀] at e; cases e) (F'.keep b o e), F'.above⟩
    refine ⟨m', hn.sameBut hs₂ hCL, fun h'' hs'' => fin D h'' _ (F₂.change hs'' hCL hC₀) (fun p hp => ?_) o1⟩
    have z : h₂.get? p.1 = some p.2 := hs₂.extBut _ _ (N' p hp).2.1 (N' p hp).1
    refine ⟨hs''.extBut _ _ ?_ z, (N' p hp).2⟩
    rcases List.mem_cons.mp hp with rfl | hp
    · exact Ne.symm hCD
    · exact offC p hp
end
end

section
theorem start_Tb : True := by
  w_top off
  k_with_none
  (k_with "k_room!" => (((try simp only [depth_under_make, depth_under_kw, depth_in1, depth_deeper, depth_caller]); (try dsimp only [ktrTop]); omega)))
  (k_with "ktr_room!" => (((try simp only [depth_under_make, depth_under_kw, depth_in1, depth_deeper, depth_caller]); (try dsimp only [ktrTop]); omega)))
  (k_with "ktr_units!" => (((try simp only [units_in1, units_deeper, Around.mark_units, units_caller]); (try dsimp only [ktrTop]); omega)))
  (k_with "ktr_rel!" => (first | k_asm | exact rot1 (by k_asm) | exact rot2 (by k_asm) | exact rot3 (by k_asm)))
  (k_with "tb_rel!" => (first | k_asm | exact fun _ h => h | (intro p hp; k_mem)))
  (k_with "size_fits!" => (((try simp only [List.size_toArray, List.length_append, List.length_cons, List.length_nil, PySem.sizeLine_eq]); omega)))
  trivial
open PySem PySem.W PyProof.Rows PySem.Spec PySem.Calls PyProof.V
set_option maxRecDepth 100000
noncomputable def getS (st : Str) : List (Str × Str) := (atS waysT st).getD []
section
variable {w : World} {A : Around} {E : Value → Shared → Prop} {s : Shared} {h₀ : Heap} {L b d lv : Addr} {ob o' lo : Obj} {news r : List (Addr × Obj)} {es : List (Str × Str)} {k st x : Str} {tk tx t : Tok} {kvs : List (Str × Value)}
theorem in_dstr {Q : Value → Shared → Prop} (N : News h₀ L s.heap news) (hp : (b, ob) ∈ news) (hd : DStr w ob es) (lo : (b == sysModules) = false) (h : ∀ tk', Q (.bool (atS es k).isSome) { s with toks := tk' }) : wpAny (model PG w) A (compareOp .In (.str k tk) (.ref b)) Q E s := by
  obtain ⟨kvs, hd, hsl⟩ := hd
  refine kda_in N hp hd lo (strKind_is _ _ _ _) (atS es k).isSome ?_ (h _)
  rcases hsl.at k with ⟨h1, h2⟩ | ⟨x, t, h1, h2⟩ <;> rw [h1, h2] <;> rfl
theorem notin_dstr {Q : Value → Shared → Prop} (N : News h₀ L s.heap news) (hp : (b, ob) ∈ news) (hd : DStr w ob es) (lo : (b == sysModules) = false) (h : ∀ tk', Q (.bool (!(atS es k).isSome)) { s with toks := tk' }) : wpAny (model PG w) A (compareOp .NotIn (.str k tk) (.ref b)) Q E s := by
  obtain ⟨kvs, hd, hsl⟩ := hd
  refine kdg_notin N hp hd lo (strKind_is _ _ _ _) (atS es k).isSome ?_ (h _)
  rcases hsl.at k with ⟨h1, h2⟩ | ⟨x, t, h1, h2⟩ <;> rw [h1, h2] <;> rfl
theorem item_dstr {value slice : PySem.Expr} {Q : Value → Shared → Prop} (N : News h₀ L s.heap news) (hp : (b, ob) ∈ news) (hd : DStr w ob es) (hk : atS es k = some x) (h : ∀ t tk', Q (.str x t) { s with toks := tk' })
    (hs : subscripted slice false (.ref b) (.str k tk) = operate [.ref b, .str k tk] (getItem (.ref b) (.str k tk)) := by with_unfolding_all rfl) (hg : ∀ r, letTemporaryGo value (.ref b) r = pure () := by intro _; with_unfolding_all rfl) :
    wpAny (model PG w) A (subscriptTail value slice (.ref b) (.str k tk)) Q E s := by
  obtain ⟨kvs, hd, hsl⟩ := hd
  rcases hsl.at k with ⟨h1, h2⟩ | ⟨y, t, h1, h2⟩
  · rw [hk] at h1; cases h1
  · rw [hk] at h1; cases h1
    exact kda_item N hp hd (strKind_is _ _ _ _) h2 (h _ _) hs hg
theorem get2_dstr {dflt : Str} {Q : Value → Shared → Prop} (N : News h₀ L s.heap news) (hp : (b, ob) ∈ news) (hd : DStr w ob es) (lo : (b == sysModules) = false) (h : ∀ t tk', Q (.str ((atS es k).getD dflt) t) { s with toks := tk' }) : wpAny (model PG w) A (call (.builtin "dict.get") [.ref b, .str k tk, .str dflt tx]) Q E s := by
  obtain ⟨kvs, hd, hsl⟩ := hd
  refine kdg_get2 N hp hd lo (strKind_is _ _ _ _) _ rfl ?_
  rcases hsl.at k with ⟨h1, h2⟩ | ⟨x, t, h1, h2⟩
  · rw [h2]; rw [h1] at h; exact h _ _
  · rw [h2]; rw [h1] at h; exact h _ _
theorem meth_dstr {pl : Sem Bool} {Q : Value × List Value → Shared → Prop} (N : News h₀ L s.heap news) (hp : (b, ob) ∈ news) (hd : DStr w ob es) (h : Q (.builtin "dict.get", [.ref b]) s) : wpAny (model PG w) A (getMethod (.ref b) (Str.ofString "get") pl) Q E s := by
  obtain ⟨kvs, hd, hsl⟩ := hd
  exact kdg_method N hp hd h
theorem meth_tabs {pl : Sem Bool} {Q : Value × List Value → Shared → Prop} (N : News h₀ L s.heap news) (hs : ∀ p ∈ r, p ∈ news) (hT : TabsIn w r (.ref lv) waysT) (h : Q (.builtin "dict.get", [.ref lv]) s) : wpAny (model PG w) A (getMethod (.ref lv) (Str.ofString "get") pl) Q E s := by
  obtain ⟨a, o, kvs, h1, h2, h3, h4, h5⟩ := hT
  cases h1
  exact kdg_method N (hs _ h2) h4 h
theorem get2_tabs {Q : Value → Shared → Prop} (N : News h₀ L s.heap news) (hs : ∀ p ∈ r, p ∈ news) (hT : TabsIn w r (.ref lv) waysT) (hd : (d, o') ∈ news) (he : DStr w o' []) (hl : (d == sysModules) = false)
    (h : ∀ b ob tk', (b, ob) ∈ news → (b == sysModules) = false → DStr w ob (getS st) → Q (.ref b) { s with toks := tk' }) : wpAny (model PG w) A (call (.builtin "dict.get") [.ref lv, .str st tk, .ref d]) Q E s := by
  obtain ⟨a, o, kvs, h1, h2, h3, h4, h5⟩ := hT
  cases h1
  refine kdg_get2 N (hs _ h2) h4 h3 (strKind_is _ _ _ _) _ rfl ?_
  rcases h5.at st with ⟨e1, e2⟩ | ⟨es, b, ob, e1, e2, e3, e4, e5⟩
  · rw [e2]; exact h _ _ _ hd hl (by unfold getS; rw [e1]; exact he)
  · rw [e2]; exact h _ _ _ (hs _ e3) e4 (by unfold getS; rw [e1]; exact e5)
theorem item_tabs {value slice : PySem.Expr} {Q : Value → Shared → Prop} (N : News h₀ L s.heap news) (hs : ∀ p ∈ r, p ∈ news) (hT : TabsIn w r (.ref lv) waysT) (hk : (atS waysT st).isSome = true)
    (h : ∀ b ob tk', (b, ob) ∈ news → (b == sysModules) = false → DStr w ob (getS st) → Q (.ref b) { s with toks := tk' })
    (hsb : subscripted slice false (.ref lv) (.str st tk) = operate [.ref lv, .str st tk] (getItem (.ref lv) (.str st tk)) := by with_unfolding_all rfl) (hg : ∀ r, letTemporaryGo value (.ref lv) r = pure () := by intro _; with_unfolding_all rfl) :
    wpAny (model PG w) A (subscriptTail value slice (.ref lv) (.str st tk)) Q E s := by
  obtain ⟨a, o, kvs, h1, h2, h3, h4, h5⟩ := hT
  cases h1
  rcases h5.at st with ⟨e1, e2⟩ | ⟨es, b, ob, e1, e2, e3, e4, e5⟩
  · rw [e1] at hk; cases hk
  · exact kda_item N (hs _ h2) h4 (strKind_is _ _ _ _) e2 (h _ _ _ (hs _ e3) e4 (by unfold getS; rw [e1]; exact e5)) hsb hg
theorem eq_nil {D b : Addr} {vs : List Value} {c c2 : Nat} {rr : Bool} {Q : Value → Shared → Prop} (N : News h₀ L s.heap news) (h1 : (D, W.listOf vs.toArray c) ∈ news) (h2 : (b, W.listOf #[] c2) ∈ news) (hu : A.units < cLine) (hr : vs.isEmpty = rr) (h : Q (.bool rr) s) :
    wpAny (model PG w) A (compareOp .Eq (.ref D) (.ref b)) Q E s := by
  subst hr
  have hl : s.heap.IsList D vs.toArray := ⟨_, (N _ h1).1, rfl, _, rfl⟩
  have hb : s.heap.IsList b #[] := ⟨_, (N _ h2).1, rfl, _, rfl⟩
  cases vs with
  | nil => exact PySem.SeqAt.eq_listAt (e := fun _ => true) hl hb rfl hu (fun j h _ => absurd h (Nat.not_lt_zero j)) h
  | cons v vs => exact PySem.SeqAt.eq_list_lengthsAt hl hb (by simp) hu h
end
section
variable {w : World} {A : Around} {E : Value → Shared → Prop} {s : Shared} {h₀ : Heap} {L b : Addr} {ob : Obj} {news : List (Addr × Obj)} {es : List (Str × Str)} {k : Str} {tk : Tok}
theorem notin_dstrB {b0 : Bool} {Q : Value → Shared → Prop} (N : News h₀ L s.heap news) (hp : (b, ob) ∈ news) (hd : DStr w ob es) (lo : (b == sysModules) = false) (hb : (atS es k).isSome = b0) (h : ∀ tk', Q (.bool (!b0)) { s with toks := tk' }) : wpAny (model PG w) A (compareOp .NotIn (.str k tk) (.ref b)) Q E s := by
  subst hb
  exact notin_dstr N hp hd lo h
end
end

section
theorem start_Dw : True := by
  w_top off
  k_with_none
  (k_with "k_room!" => (((try simp only [depth_under_make, depth_under_kw, depth_in1, depth_deeper, depth_caller]); (try dsimp only [ktrTop]); omega)))
  (k_with "ktr_room!" => (((try simp only [depth_under_make, depth_under_kw, depth_in1, depth_deeper, depth_caller]); (try dsimp only [ktrTop]); omega)))
  (k_with "ktr_units!" => (((try simp only [units_in1, units_deeper, Around.mark_units, units_caller]); (try dsimp only [ktrTop]); omega)))
  (k_with "ktr_rel!" => (first | k_asm | exact rot1 (by k_asm) | exact rot2 (by k_asm) | exact rot3 (by k_asm)))
  (k_with "tb_rel!" => (first | k_asm | exact fun _ h => h | (intro p hp; k_mem)))
  (k_with "size_fits!" => (((try simp only [List.size_toArray, List.length_append, List.length_cons, List.length_nil, PySem.sizeLine_eq]); omega)))
  (k_with "call ref!" => (k_here; (try dsimp only [List.nil_append, List.cons_append]); (with_reducible show wpAny _ _ (call (Value.ref 179) _ _) _ _ _); k_dflt (refine' kind_c ?zzC ?zzF ?zzN ?zzhf ?zzR ?zzhv ?_; (case zzF => k_asm); (case zzN => ktr_rel); (case zzC => tb_start); (case zzR => k_asm); (case zzhf => tb_rel); (case zzhv => assumption); k_whole; intro _ _ _ _ _; (try k_sweep))))
  (k_with "call ref!" => (k_here; (try dsimp only [List.nil_append, List.cons_append]); (with_reducible show wpAny _ _ (call (Value.ref 186) _ _) _ _ _); k_dflt (refine' take_c ?zzC ?zzF ?zzN ?zzhne ?zzhf ?zzR ?zzhv ?_; (case zzF => k_asm); (case zzN => ktr_rel); (case zzC => tb_start); (case zzR => k_asm); (case zzhf => tb_rel); (case zzhv => assumption); (case zzhne => k_all); k_whole; intro _ _ _ _ _; (try k_sweep))))
  (k_with "call builtin:len!" => (k_here; (with_reducible show wpAny _ _ (call (Value.builtin "len") [Value.ref _]) _ _ _); k_dflt (refine' kst_len ?zzk1 ?zzk2 ?zzk3 ?zzk4 ?_; (case zzk1 => k_asm); (case zzk2 => k_mem); (case zzk3 => exact rfl); (case zzk4 => first | omega | ((try simp only [List.length_cons, List.length_nil, List.length_append]); omega)); k_whole)))
  (k_with "compareOp Eq int int!" => (k_here; (with_reducible show wpAny _ _ (compareOp CmpOp.Eq (Value.int _ _) (Value.int _ _)) _ _ _); k_dflt (refine' eq_intF ?zza ?_; (case zza => omega))))
  (k_with "pyIter ref!" => (k_here; (with_reducible show wpAny _ _ (pyIter (Value.ref _)) (fun it s₂ => TurnsAt _ _ _ _ _ _ _ _ _ it s₂) _ _); k_dflt (refine' iter_tupTurns (vs := [_, _, _, _]) ?zzzh ?zzzF ?zzzN ?zzzm ?zzzc ?zzzd ?_; (case zzzh => rfl); (case zzzF => k_asm); (case zzzN => k_asm); (case zzzm => k_mem); (case zzzc => rfl); (case zzzd => rfl); intro zziq zzl1; (try k_lt zzl1); (revert zziq zzl1; intro _ _))))
  (k_with "pyIter ref!" => (k_here; (with_reducible show wpAny _ _ (pyIter (Value.ref _)) (fun it s₂ => TurnsAt _ _ _ _ _ _ _ _ _ it s₂) _ _); k_dflt (refine' iter_tupTurns (vs := [_, _, _]) ?zzzh ?zzzF ?zzzN ?zzzm ?zzzc ?zzzd ?_; (case zzzh => rfl); (case zzzF => k_asm); (case zzzN => k_asm); (case zzzm => k_mem); (case zzzc => rfl); (case zzzd => rfl); intro zziq zzl1; (try k_lt zzl1); (revert zziq zzl1; intro _ _))))
  (k_with "UnrEndW!" => (k_here; k_dflt (refine' unrEnd ?zzzF ?zzzN ?zzzne ?zzzk ?_; (case zzzF => k_asm); (case zzzN => k_asm); (case zzzne => k_all); (case zzzk => k_mem))))
  (k_with "subscriptTail Name Constant ref str!" => (k_here; (with_reducible show wpAny _ _ (subscriptTail _ _ (Value.ref _) (Value.str _ _)) _ _ _); k_dflt (refine' kda_item (knd := PySem.strKind _ _) ?zzzN ?zzzp ?zzzd (strKind_is _ _ _ _) ?zzzl ?_; (case zzzN => k_asm); (case zzzp => k_mem); (case zzzd => k_asm); (case zzzl => rfl))))
  (k_with "ItemsRest!" => (k_here; k_dflt ((with_unfolding_all refine ItemsRest.zero (fun zzhq zztkq zzFq zzNq => ?_)); (try dsimp only [envOf] at zzFq zzNq); (revert zzhq zztkq zzFq zzNq; intro _ _ _ _); (try dsimp only); (try ((with_reducible refine wp_gen fun _ => ?_); (try dsimp only))))))
  (k_with "newTuple!" => (k_here; k_dflt (refine' kup_newTuple ?zzzF ?zzzN ?_ ?zzzz; (case zzzF => k_asm); (case zzzN => k_asm); (case zzzz => kmk_size)); intro zzDq zzhq zzFq zzNq zzl1; (try k_lt zzl1); (revert zzDq zzhq zzFq zzNq zzl1; intro _ _ _ _ _); (try k_sweep)))
  (k_with "call ref!" => (k_here; (try dsimp only [List.nil_append, List.cons_append]); (with_reducible show wpAny _ _ (call (Value.ref 243) _ _) _ _ _); k_dflt (refine' take_u ?zzzC ?zzzF ?zzzN ?zzzU ?zzzm ?zzzm2 ?zzzl (fun zzhq zztkq zzxsq zznq zzdq zztq zzFq zzNq zzhd1q zzhd2q zzhlq => ?_); (case zzzF => k_asm); (case zzzN => k_asm); (case zzzC => tb_start); (case zzzU => k_updF); (case zzzm => decide); (case zzzm2 => decide); (case zzzl => omega); (try dsimp only at zzhd1q zzhd2q zzNq ⊢); (revert zzhq zztkq zzxsq zznq zzdq zztq zzFq zzNq zzhd1q zzhd2q zzhlq; intro _ _ _ _ _ _ _ _ _ _ _))))
  (k_with "exec For Name Call cons nil!" => (k_here; k_dflt (refine' For_turns ?zzzF ?_; (case zzzF => k_asm))))
  (k_with "getMethod ref!" => (k_here; (with_reducible show wpAny _ _ (getMethod (Value.ref _) (Str.ofString "get") _) _ _ _); k_dflt (refine' meth_tabs ?zzyN ?zzys ?zzyT ?_; (case zzyT => assumption); (case zzyN => k_asm); (case zzys => (intro p hp; repeat (first | exact hp | exact List.mem_append_right _ hp | refine mem_tl ?_))))))
  (k_with "getMethod ref!" => (k_here; (with_reducible show wpAny _ _ (getMethod (Value.ref _) (Str.ofString "get") _) _ _ _); k_dflt (refine' meth_dstr ?zzyN ?zzyp ?zzyd ?_; (case zzyN => k_asm); (case zzyp => with_reducible assumption); (case zzyd => with_reducible assumption))))
  (k_with "call builtin:dict.get!" => (k_here; k_dflt (refine' get2_tabs ?zzyN ?zzys ?zzyT ?zzyd ?zzye ?zzyl (fun _ _ _ _ _ _ => ?_); (case zzyT => assumption); (case zzyN => k_asm); (case zzys => (intro p hp; repeat (first | exact hp | exact List.mem_append_right _ hp | refine mem_tl ?_))); (case zzyd => k_mem); (case zzye => exact dstr_nil (by k_asm)); (case zzyl => k_asm))))
  (k_with "call builtin:dict.get!" => (k_here; k_dflt (refine' get2_dstr ?zzyN ?zzyp ?zzyd ?zzyl (fun _ _ => ?_); (case zzyN => k_asm); (case zzyp => with_reducible assumption); (case zzyd => with_reducible assumption); (case zzyl => with_reducible assumption))))
  (k_with "compareOp In str ref!" => (k_here; (with_reducible show wpAny _ _ (compareOp _ (Value.str _ _) (Value.ref _)) _ _ _); k_dflt (refine' in_dstr ?zzyN ?zzyp ?zzyd ?zzyl (fun _ => ?_); (case zzyN => k_asm); (case zzyp => with_reducible assumption); (case zzyd => with_reducible assumption); (case zzyl => with_reducible assumption))))
  (k_with "compareOp Eq ref ref!" => (k_here; (with_reducible show wpAny _ _ (compareOp CmpOp.Eq (Value.ref _) (Value.ref _)) _ _ _); k_dflt (refine' eq_nil ?zzyN ?zzya ?zzyb ?zzyu ?zzyr ?_; (case zzyN => k_asm); (case zzya => k_mem); (case zzyb => k_mem); (case zzyu => ktr_units); (case zzyr => rfl))))
  (k_with "call type:list!" => (k_here; (with_reducible show wpAny _ _ (call (Value.type "list") [Value.ref 236]) _ _ _); k_dflt (refine' list_kinds ?zzyF ?zzyX ?zzyN (fun zzDq zzhq zzcq zzksq zzFq zzNq zzl1 zzhl11 zzhk11 => ?_); (case zzyF => k_asm); (case zzyX => k_asm); (case zzyN => k_asm); (try k_lt zzl1); (revert zzDq zzhq zzcq zzksq zzFq zzNq zzl1 zzhl11 zzhk11; intro _ _ _ _ _ _ _ _ _))))
  (k_with "call builtin:len!" => (k_here; k_dflt (refine' len_strs ?zzyN ?zzym ?zzyl (fun _ _ => ?_); (case zzyN => k_asm); (case zzym => k_mem); (case zzyl => omega))))
  (k_with "subscriptTail Name BinOp ref int!" => (k_here; k_dflt (refine' item_strs ?zzyN ?zzym ?zzy0 ?zzy1 ?zzyl (fun _ _ _ => ?_); (case zzyN => k_asm); (case zzym => k_mem); (case zzy0 => exact Int.fmod_nonneg_of_pos _ (by omega)); (case zzy1 => exact Int.fmod_lt_of_pos _ (by omega)); (case zzyl => omega))))
  trivial
open PySem PySem.W PyProof.Rows PySem.Spec PySem.Calls PyProof.V PyProof.Rows.LCg PyProof.Rows.LCt
set_option maxRecDepth 100000
set_option maxHeartbeats 1000000
noncomputable def strsV (ks : List (Str × Tok)) : List Value := ks.map fun p => .str p.1 p.2
noncomputable def kinds11 : List Str := [S "KIND", S "NAME", S "LITERAL", S "NUMBER", S "MARK", S "HEAD", S "ACTION", S "EMPTY", S "BAR", S "SEMI", S "PREC"]
theorem map1 {m : Str → Option Value} {a : Str} {v : Option Value} (h : m a = v) : m = fun y => if y = a then v else m y := by
  funext y
  by_cases e : y = a
  · rw [if_pos e, e, h]
  · rw [if_neg e]
theorem map2 {m : Str → Option Value} {a b : Str} {v u : Option Value} (h : m a = v) (h2 : m b = u) : m = fun y => if y = a then v else if y = b then u else m y := by
  funext y
  by_cases e : y = a
  · rw [if_pos e, e, h]
  · rw [if_neg e]
    by_cases e : y = b
    · rw [if_pos e, e, h2]
    · rw [if_neg e]
theorem tailN {h₀ h : Heap} {L : Addr} {p : Addr × Obj} {l : List (Addr × Obj)} (N : News h₀ L h (p :: l)) : News h₀ L h l := fun q hq => N q (.tail _ hq)
/-- what stands before each turn of _law_drawn -/
inductive DrJ (pl kl c1 c2 : Addr) (o2 : Obj) (r : List (Addr × Obj)) (i : Nat) (m' : Str → Option Value) (n' : List (Addr × Obj)) : Prop
  | mk (kl2 : Addr) (e : kl2 = kl) (xs' : List (Int × Tok)) (c' kc : Nat) (ks : List (Str × Tok)) (st : Str) (t : Tok) (oc : Obj) (nw : List (Addr × Obj)) (hn : n' = (kl, W.listOf (strsV ks).toArray kc) :: (c1, oc) :: (c2, o2) :: (pl, W.listOf (intsV xs').toArray c') :: (nw ++ r)) (ho : oc.data = .cell (some (.str st t))) (hp : m' (S "pool") = some (.ref pl)) (hk : m' (S "kinds") = some (.ref kl))
    (q1 : ∀ p ∈ nw, p.1 ≠ kl) (q2 : ∀ p ∈ nw, p.1 ≠ c1) (q3 : ∀ p ∈ nw, p.1 ≠ pl) (q4 : ∀ q ∈ nw, ∀ p ∈ r, p.1 ≠ q.1) (hl : ks.length = i) (hks : ∀ k ∈ ks, k.1 ∈ kinds11) (hx : xs'.length < 100) : DrJ pl kl c1 c2 o2 r i m' n'
section
variable {w : World} {mean : ExcName → Option Value} {mg mb : Str → Option Value} {dp un : Nat} {gd : Option (List Code)} {cn : Str} {cs : Scope} {a : Addr} {ccd : Value} {cl : List (Str × Addr)} {outer : List Env} {A₀ : Around} {base h₀ : Heap} {L : Addr} {m : Str → Option Value} {s : Shared} {Q E : Value → Shared → Prop}
  {r : List (Addr × Obj)} {pl lv : Addr} {xs : List (Int × Tok)} {n : Nat}
theorem kinds_tup {h : Heap} (X : (Mine.K0 w.params).In h) : ∃ its, h.IsTuple 236 its ∧ its.size = 11 ∧ ∀ v ∈ its.toList, ∃ k t, v = .str k t ∧ k ∈ kinds11 := by
  refine' ⟨_, tup_at X ?a ?b ?c, ?_, ?_⟩
  case a => k_is
  case b => rfl
  case c => rfl
  · rfl
  · intro v hv
    simp only [List.mem_cons, List.not_mem_nil, or_false] at hv
    rcases hv with rfl | rfl | rfl | rfl | rfl | rfl | rfl | rfl | rfl | rfl | rfl <;> exact ⟨_, _, rfl, by decide⟩
theorem strs_of : ∀ (l : List Value), (∀ v ∈ l, ∃ k t, v = .str k t ∧ k ∈ kinds11) → ∃ ks, l = strsV ks ∧ ∀ k ∈ ks, k.1 ∈ kinds11
  | [], _ => ⟨[], rfl, fun _ h => (nomatch h)⟩
  | v :: l, h => by
    obtain ⟨k, t, rfl, hk⟩ := h v (.head _)
    obtain ⟨ks, rfl, h2⟩ := strs_of l fun u hu => h u (.tail _ hu)
    exact ⟨(k, t) :: ks, rfl, fun p hp => by rcases List.mem_cons.mp hp with rfl | hp; exact hk; exact h2 p hp⟩
theorem list_kinds {A : Around} {news : List (Addr × Obj)} (F : Fr h₀ L s.heap m) (X : (Mine.K0 w.params).In h₀) (N : News h₀ L s.heap news)
    (h : ∀ D h' c ks, Fr h₀ L h' m → News h₀ L h' ((D, W.listOf (strsV ks).toArray c) :: news) → (∀ p ∈ news, p.1 < D) → ks.length = 11 → (∀ k ∈ ks, k.1 ∈ kinds11) → Q (.ref D) { s with heap := h' }) :
    wpAny (model PG w) A (call (.type "list") [.ref 236]) Q E s := by
  obtain ⟨its, ⟨o, h1, h2, n, h3⟩, hsz, hk⟩ := kinds_tup (X.keeps F.keep)
  obtain ⟨ks, hks, hk2⟩ := strs_of _ hk
  have e : its = (strsV ks).toArray := by rw [← hks, Array.toArray_toList]
  have hl : ks.length = 11 := by
    have : (strsV ks).length = ks.length := List.length_map ..
    rw [← this, ← hks, Array.length_toList, hsz]
  exact call_list_seq (hsz := by rw [hsz, sizeLine_eq]; omega) 236 (.inr rfl) h1 h2 h3 fun h' c' hk' hD => h _ h' c' ks (F.keeps hk') (news_pushed F N hk' (hD.trans (by rw [e])) rfl) (fun q hq => Heap.lt_size (N q hq).1) hl hk2
theorem len_strs {A : Around} {news : List (Addr × Obj)} {l : Addr} {ks : List (Str × Tok)} {c : Nat} (N : News h₀ L s.heap news) (hm : (l, W.listOf (strsV ks).toArray c) ∈ news) (hl : ks.length < 1000)
    (h : ∀ t tk', Q (.int (ks.length : Int) t) { s with toks := tk' }) : wpAny (model PG w) A (call (.builtin "len") [.ref l]) Q E s := by
  have e : (strsV ks).length = ks.length := List.length_map ..
  exact kst_len N hm e (by omega) (h _ _)
theorem item_strs {value slice : PySem.Expr} {A : Around} {news : List (Addr × Obj)} {l : Addr} {ks : List (Str × Tok)} {c : Nat} {i : Int} {u : Tok} (N : News h₀ L s.heap news) (hm : (l, W.listOf (strsV ks).toArray c) ∈ news) (h0 : 0 ≤ i) (h1 : i < (ks.length : Int)) (hl : ks.length < 1000)
    (h : ∀ k t, (k, t) ∈ ks → Q (.str k t) s)
    (hs : subscripted slice false (.ref l) (.int i u) = operate [.ref l, .int i u] (getItem (.ref l) (.int i u)) := by with_unfolding_all rfl) :
    wpAny (model PG w) A (subscriptTail value slice (.ref l) (.int i u)) Q E s := by
  obtain ⟨n, rfl⟩ := Int.eq_ofNat_of_zero_le h0
  have hn : n < ks.length := by omega
  obtain ⟨k, t, hx⟩ : ∃ k t, ks[n] = (k, t) := ⟨_, _, rfl⟩
  have e : (strsV ks)[n]? = some (.str k t) := by rw [strsV, List.getElem?_map, List.getElem?_eq_getElem hn, hx]; rfl
  exact item_nat N hm e (by omega) (h k t (by rw [← hx]; exact List.getElem_mem hn)) hs
/-- what stands while the kinds that may come are gathered -/
inductive DcJ (hd : List (Addr × Obj)) (r : List (Addr × Obj)) (I kl c1 pl : Addr) (i3 : Nat) (ys : List Value) (n' : List (Addr × Obj)) : Prop
  | mk (ks : List (Str × Tok)) (nw : List (Addr × Obj)) (hy : ys = strsV ks) (hk : ∀ k ∈ ks, k.1 ∈ kinds11) (hl : ks.length ≤ i3) (hn : n' = hd ++ (nw ++ r)) (a1 : ∀ p ∈ nw, p.1 ≠ I) (a2 : ∀ p ∈ nw, p.1 ≠ kl) (a3 : ∀ p ∈ nw, p.1 ≠ c1) (a4 : ∀ p ∈ nw, p.1 ≠ pl) (a5 : ∀ q ∈ nw, ∀ p ∈ r, p.1 ≠ q.1) : DcJ hd r I kl c1 pl i3 ys n'
theorem off1 {D : Addr} : ∀ {l : List (Addr × Obj)}, Off1 D l → ∀ p ∈ l, p.1 ≠ D
  | [], _, _, h => nomatch h
  | _ :: _, x, p, h => by
    rcases List.mem_cons.mp h with rfl | h
    · exact x.1
    · exact off1 x.2 p h
theorem exLt {d I kl c1 c2 pl : Addr} {nw : List (Addr × Obj)} (h : I < d ∧ kl < d ∧ c1 < d ∧ c2 < d ∧ pl < d ∧ AllLt d (nw ++ r)) : d ≠ I ∧ d ≠ kl ∧ d ≠ c1 ∧ d ≠ pl ∧ ∀ p ∈ r, p.1 ≠ d :=
  ⟨Nat.ne_of_gt h.1, Nat.ne_of_gt h.2.1, Nat.ne_of_gt h.2.2.1, Nat.ne_of_gt h.2.2.2.2.1, fun p hp => Nat.ne_of_lt (ltOf h.2.2.2.2.2 p (List.mem_append_right _ hp))⟩
theorem dr_end {ex nw : List (Addr × Obj)} {I kl c1 c2 pl : Addr} {it o1 o2 : Obj} {i kc c' : Nat} {ks kk : List (Str × Tok)} {k st : Str} {t t2 : Tok} {xs' : List (Int × Tok)} {h' : Heap} {tk : Nat} {m' : Str → Option Value} {Q : Flow → Shared → Prop} (F : Fr h₀ L h' m')
    (N : News h₀ L h' (ex ++ (I, it) :: (kl, W.listOf ((strsV ks).toArray.push (.str k t)) (kc + 1)) :: (c1, o1) :: (c2, o2) :: (pl, W.listOf (intsV xs').toArray c') :: (nw ++ r)))
    (hex : ∀ q ∈ ex, q.1 ≠ I ∧ q.1 ≠ kl ∧ q.1 ≠ c1 ∧ q.1 ≠ pl ∧ ∀ p ∈ r, p.1 ≠ q.1) (hd : o1.data = .cell (some (.str st t2))) (hp : m' (S "pool") = some (.ref pl)) (hk : m' (S "kinds") = some (.ref kl))
    (j1 : kl < I) (j2 : c1 < I) (j3 : c2 < I) (j4 : pl < I) (j5 : ∀ p ∈ r, p.1 ≠ I)
    (a1 : ∀ p ∈ nw, p.1 ≠ I) (a2 : ∀ p ∈ nw, p.1 ≠ kl) (a3 : ∀ p ∈ nw, p.1 ≠ c1) (a4 : ∀ p ∈ nw, p.1 ≠ pl) (a5 : ∀ q ∈ nw, ∀ p ∈ r, p.1 ≠ q.1)
    (hl : ks.length = i) (hks : ∀ k ∈ ks, k.1 ∈ kinds11) (hm : (k, t) ∈ kk) (hkk : ∀ k ∈ kk, k.1 ∈ kinds11) (hx : xs'.length < 100) :
    FStep h₀ L I it s (DrJ pl kl c1 c2 o2 r (i + 1)) Q .next { s with heap := h', toks := tk } := by
  refine FStep.next (n' := (kl, W.listOf (strsV (ks ++ [(k, t)])).toArray (kc + 1)) :: (c1, o1) :: (c2, o2) :: (pl, W.listOf (intsV xs').toArray c') :: ((ex ++ nw) ++ r)) F (fun p hp => N p ?_) ?_ ⟨kl, rfl, xs', c', kc + 1, ks ++ [(k, t)], st, t2, o1, ex ++ nw, rfl, hd, hp, hk, ?_, ?_, ?_, ?_, ?_, ?_, hx⟩
  · have e : (strsV ks).toArray.push (.str k t) = (strsV (ks ++ [(k, t)])).toArray := by rw [List.push_toArray, strsV, strsV, List.map_append]; rfl
    rw [e]
    simp only [List.mem_cons, List.mem_append] at hp ⊢
    rcases hp with h | h | h | h | h | (h | h) | h <;> simp [h]
  · intro p hp
    simp only [List.mem_cons, List.mem_append] at hp
    rcases hp with h | h | h | h | (h | h) | h
    · subst h; exact Nat.ne_of_lt j1
    · subst h; exact Nat.ne_of_lt j2
    · subst h; exact Nat.ne_of_lt j3
    · subst h; exact Nat.ne_of_lt j4
    · exact (hex p h).1
    · exact a1 p h
    · exact j5 p h
  · intro p hp; exact (List.mem_append.mp hp).elim (fun h => (hex p h).2.1) (a2 p)
  · intro p hp; exact (List.mem_append.mp hp).elim (fun h => (hex p h).2.2.1) (a3 p)
  · intro p hp; exact (List.mem_append.mp hp).elim (fun h => (hex p h).2.2.2.1) (a4 p)
  · intro q hq; exact (List.mem_append.mp hq).elim (fun h => (hex q h).2.2.2.2) (a5 q)
  · rw [List.length_append, hl]; rfl
  · intro p hp
    rcases List.mem_append.mp hp with h | h
    · exact hks p h
    · rw [List.mem_singleton.mp h]; exact hkk _ hm
theorem ex4 {d1 d2 d3 d4 I kl c1 c2 pl : Addr} {nw : List (Addr × Obj)} {e1 e2 e3 e4 : Obj} (l4 : d3 < d4 ∧ d2 < d4 ∧ d1 < d4 ∧ I < d4 ∧ kl < d4 ∧ c1 < d4 ∧ c2 < d4 ∧ pl < d4 ∧ AllLt d4 (nw ++ r)) (l3 : d2 < d3 ∧ d1 < d3 ∧ I < d3 ∧ kl < d3 ∧ c1 < d3 ∧ c2 < d3 ∧ pl < d3 ∧ AllLt d3 (nw ++ r))
    (l2 : d1 < d2 ∧ I < d2 ∧ kl < d2 ∧ c1 < d2 ∧ c2 < d2 ∧ pl < d2 ∧ AllLt d2 (nw ++ r)) (l1 : d1 ≠ I ∧ d1 ≠ kl ∧ d1 ≠ c1 ∧ d1 ≠ pl ∧ ∀ p ∈ r, p.1 ≠ d1) : ∀ q ∈ [(d4, e4), (d3, e3), (d2, e2), (d1, e1)], q.1 ≠ I ∧ q.1 ≠ kl ∧ q.1 ≠ c1 ∧ q.1 ≠ pl ∧ ∀ p ∈ r, p.1 ≠ q.1 := by
  simp only [List.forall_mem_cons]
  exact ⟨exLt l4.2.2.2, exLt l3.2.2, exLt l2.2, l1, fun _ h => (nomatch h)⟩
theorem ex3 {d1 d2 d4 I kl c1 c2 pl : Addr} {nw : List (Addr × Obj)} {e1 e2 e4 : Obj} (l4 : d2 < d4 ∧ d1 < d4 ∧ I < d4 ∧ kl < d4 ∧ c1 < d4 ∧ c2 < d4 ∧ pl < d4 ∧ AllLt d4 (nw ++ r))
    (l2 : d1 < d2 ∧ I < d2 ∧ kl < d2 ∧ c1 < d2 ∧ c2 < d2 ∧ pl < d2 ∧ AllLt d2 (nw ++ r)) (l1 : d1 ≠ I ∧ d1 ≠ kl ∧ d1 ≠ c1 ∧ d1 ≠ pl ∧ ∀ p ∈ r, p.1 ≠ d1) : ∀ q ∈ [(d4, e4), (d2, e2), (d1, e1)], q.1 ≠ I ∧ q.1 ≠ kl ∧ q.1 ≠ c1 ∧ q.1 ≠ pl ∧ ∀ p ∈ r, p.1 ≠ q.1 := by
  simp only [List.forall_mem_cons]
  exact ⟨exLt l4.2.2, exLt l2.2, l1, fun _ h => (nomatch h)⟩
theorem dc_end {I3 C3 D3 d I kl c1 c2 pl : Addr} {oI3 oC3 oD3 o e1 e2 e3 e4 e5 : Obj} {nw : List (Addr × Obj)} {i3 : Nat} {y : Value} {f : Value → List Value} {ks : List (Str × Tok)} {h' : Heap} {tk : Nat} (F : Fr h₀ L h' m)
    (N : News h₀ L h' ((d, o) :: (I3, oI3) :: (C3, oC3) :: (D3, oD3) :: (I, e1) :: (kl, e2) :: (c1, e3) :: (c2, e4) :: (pl, e5) :: (nw ++ r))) (hoff : Off3 I3 C3 D3 ([(I, e1), (kl, e2), (c1, e3), (c2, e4), (pl, e5)] ++ (nw ++ r)))
    (hlt : I3 < d ∧ C3 < d ∧ D3 < d ∧ I < d ∧ kl < d ∧ c1 < d ∧ c2 < d ∧ pl < d ∧ AllLt d (nw ++ r)) (hk : ∀ k ∈ ks, k.1 ∈ kinds11) (hl3 : ks.length ≤ i3) (hf : f y = strsV ks)
    (a1 : ∀ p ∈ nw, p.1 ≠ I) (a2 : ∀ p ∈ nw, p.1 ≠ kl) (a3 : ∀ p ∈ nw, p.1 ≠ c1) (a4 : ∀ p ∈ nw, p.1 ≠ pl) (a5 : ∀ q ∈ nw, ∀ p ∈ r, p.1 ≠ q.1) :
    CompEnd h₀ L m s I3 oI3 C3 oC3 D3 oD3 (fun _ => True) (fun y n' => DcJ [(I, e1), (kl, e2), (c1, e3), (c2, e4), (pl, e5)] r I kl c1 pl i3 (f y) n') y { s with heap := h', toks := tk } := by
  obtain ⟨l1, l2, l3, l4, l5, l6, l7, l8, l9⟩ := hlt
  have hm := hoff.mem
  refine ⟨h', tk, [(I, e1), (kl, e2), (c1, e3), (c2, e4), (pl, e5)] ++ (((d, o) :: nw) ++ r), rfl, F, fun p hp => N p ?_, Off3.of fun p hp => ?_, trivial, ks, (d, o) :: nw, hf, hk, hl3, rfl, ?_, ?_, ?_, ?_, ?_⟩
  · simp only [List.mem_cons, List.mem_append, List.not_mem_nil, or_false] at hp ⊢
    rcases hp with h | h | h | (h | h | h | h | h) | (h | h) | h <;> simp [h]
  · simp only [List.mem_cons, List.mem_append, List.not_mem_nil, or_false] at hp
    rcases hp with h | (h | h) | h
    · exact hm p (by simp only [List.mem_cons, List.mem_append, List.not_mem_nil, or_false]; exact .inl h)
    · subst h; exact ⟨Nat.ne_of_gt l1, Nat.ne_of_gt l2, Nat.ne_of_gt l3⟩
    · exact hm p (List.mem_append_right _ (List.mem_append_left _ h))
    · exact hm p (List.mem_append_right _ (List.mem_append_right _ h))
  · intro p hp; rcases List.mem_cons.mp hp with rfl | hp; exact Nat.ne_of_gt l4; exact a1 p hp
  · intro p hp; rcases List.mem_cons.mp hp with rfl | hp; exact Nat.ne_of_gt l5; exact a2 p hp
  · intro p hp; rcases List.mem_cons.mp hp with rfl | hp; exact Nat.ne_of_gt l6; exact a3 p hp
  · intro p hp; rcases List.mem_cons.mp hp with rfl | hp; exact Nat.ne_of_gt l8; exact a4 p hp
  · intro q hq p hp; rcases List.mem_cons.mp hq with rfl | hq; exact Nat.ne_of_lt (ltOf l9 p (List.mem_append_right _ hp)); exact a5 q hq p hp
theorem drawn_c (C : Cx w mean mg mb dp un cs A₀ base outer h₀ 12) (F : Fr h₀ L s.heap m) (N : News h₀ L s.heap ((pl, W.listOf (intsV xs).toArray n) :: r)) (hne : ∀ p ∈ r, p.1 ≠ pl) (hlen : xs.length < 100) (hW : TabsIn w r (.ref lv) waysT)
  (ret : ∀ h' tk' xs' n' kl c nw ks, Fr h₀ L h' m → News h₀ L h' ((pl, W.listOf (intsV xs').toArray n') :: (kl, W.listOf (strsV ks).toArray c) :: (nw ++ r)) →
    (∀ q ∈ (kl, W.listOf (strsV ks).toArray c) :: nw, ∀ p ∈ (pl, W.listOf (intsV xs').toArray n') :: r, p.1 ≠ q.1) → ks.length ≤ 16 → (∀ k ∈ ks, k.1 ∈ kinds11) → Q (.ref kl) { s with heap := h', toks := tk' }) :
  wpAny (model PG w) (ktrTop dp un gd cn cs L a ccd cl outer) (call (.ref 255) [.ref pl, .ref lv]) Q E s := by
  obtain ⟨B, X, T, hk, hd, hu⟩ := C
  have hMk := kstMark
  refine wpAny_call ?_
  k_dflt (refine' code_defC ?k1 ?k2 ?k3 ?k4 ?k5 ?kA ?kF ?kK ?k6 ?k7 ?k8 ?k9 ?kB ?kD ?_ ?c2 ?c3 ?c4; (case kA => exact rfl); (case kF => exact rfl); (case kK => assumption); (case k1 => k_asm); (case k2 => k_asm); (case k3 => k_asm); (case k4 => k_asm); (case k5 => k_asm); (case k6 => k_is); (case k7 => k_is); (case k8 => ktr_room); (case k9 => exact BindsTo.of_eq rfl); (case kB => exact rfl); (case kD => decide +kernel); (case c2 => exact rfl); (case c3 => exact rfl); (case c4 => exact rfl); k_whole; intro g' L' h' tk' cells' FG' F' N' Y' B' X' T' l1; (try k_lt l1); k_cells Y'; (try simp only [List.cons_append, List.nil_append] at N'); (try dsimp only); (try k_fold))
  rename_i o1 o2 d1 d2
  have hlr := ltOf l1.2
  have hlp := l1.1
  have hr1 : ∀ p ∈ r, p.1 ≠ L' + 1 + 1 := fun p hp => Nat.ne_of_lt (Nat.lt_of_lt_of_le (hlr p hp) (Nat.le_trans (Nat.le_succ _) (Nat.le_succ _)))
  have hr2 : ∀ p ∈ r, p.1 ≠ L' + 1 := fun p hp => Nat.ne_of_lt (Nat.lt_of_lt_of_le (hlr p hp) (Nat.le_succ _))
  have hc2 : o2.data = .cell (some (.ref lv)) := d2
  clear d2
  refine abs_Q fun W0 hW0 => ?_
  (repeat' ((fail_if_success (with_reducible show wpAny _ _ (pyIter _) _ _ _)); (fail_if_success (with_reducible show wpAny _ _ (exec (Stmt.Assign _ (PySem.Expr.ListComp _ _ _ _) _) _) _ _ _)); (fail_if_success (with_reducible show ∃ _, _)); first | (k_unfold; (try dsimp only)) | (k_end; kc_close) | walk1 | (dsimp only; walk1) | (leave1; walk_say "STEP leave1"; (try dsimp only)) | (refine useX (by with_reducible assumption) ?_; (try dsimp only)) | fail "no step"))
  refine' for_range (n := _) (J := DrJ pl ?jl (L' + 1 + 1) (L' + 1) o2 r) rfl (by assumption) (Int.toNat_of_nonneg (by assumption)).symm ?jn (fun _ _ => rfl) ?jF (tailN ?jN) ?j0 ?jstep ?jdone
  case jF => k_asm
  case jN => k_asm
  case jn => omega
  case j0 => exact ⟨_, rfl, _, _, _, [], _, _, _, [], rfl, by assumption, by with_unfolding_all rfl, by with_unfolding_all rfl, fun _ h => (nomatch h), fun _ h => (nomatch h), fun _ h => (nomatch h), fun _ h => (nomatch h), rfl, fun _ h => (nomatch h), by assumption⟩
  case jstep =>
    rintro I i t m₁ n₁ h₁ tk₁ it hi ⟨l', rfl, xs', c', kc, ks, st, t2, oc, nw, rfl, hoc, hp, hk, q1, q2, q3, q4, hl, hks, hx⟩ hIn hIlt F₁ N₁
    rw [map2 hp hk] at F₁
    refine abs_body fun W9 hW9 => ?_
    have i1 : @LT.lt Nat _ l' I := hIlt _ (.head _)
    have i2 : @LT.lt Nat _ (L' + 1 + 1) I := hIlt _ (.tail _ (.head _))
    have i3 : @LT.lt Nat _ (L' + 1) I := hIlt _ (.tail _ (.tail _ (.head _)))
    have i4 : @LT.lt Nat _ pl I := hIlt _ (.tail _ (.tail _ (.tail _ (.head _))))
    have i5 : ∀ p ∈ r, p.1 ≠ I := fun p hp => Nat.ne_of_lt (hIlt _ (.tail _ (.tail _ (.tail _ (.tail _ hp)))))
    have hls : (strsV ks).length < 900 := by rw [strsV, List.length_map]; omega
    have hr3 : ∀ p ∈ r, p.1 ≠ l' := by
      have q : L' + 1 + 1 < l' ∧ L' + 1 < l' ∧ pl < l' ∧ AllLt l' r := by assumption
      exact fun p hp => Nat.ne_of_lt (ltOf q.2.2.2 p hp)
    (repeat' ((fail_if_success (with_reducible show wpAny _ _ (pyIter _) _ _ _)); (fail_if_success (with_reducible show wpAny _ _ (exec (Stmt.Assign _ (PySem.Expr.ListComp _ _ _ _) _) _) _ _ _)); (fail_if_success (with_reducible show ∃ _, _)); first | (k_unfold; (try dsimp only)) | (k_end; kc_close) | walk1 | (dsimp only; walk1) | (leave1; walk_say "STEP leave1"; (try dsimp only)) | (refine useX (by with_reducible assumption) ?_; (try dsimp only)) | fail "no step"))
    refine Assign_ListComp_Tt (F₀ := by k_asm) (by rfl) (by with_unfolding_all rfl) (by with_unfolding_all rfl) (by decide) (by rfl) (by decide) (by rfl) (by rfl) (by rfl) ?_
    (repeat' ((fail_if_success (with_reducible show wpAny _ _ (pyIter _) _ _ _)); (fail_if_success (with_reducible show wpAny _ _ (exec (Stmt.Assign _ (PySem.Expr.ListComp _ _ _ _) _) _) _ _ _)); (fail_if_success (with_reducible show ∃ _, _)); first | (k_unfold; (try dsimp only)) | (k_end; kc_close) | walk1 | (dsimp only; walk1) | (leave1; walk_say "STEP leave1"; (try dsimp only)) | (refine useX (by with_reducible assumption) ?_; (try dsimp only)) | fail "no step"))
    obtain ⟨its, hi1, hi2, hi3⟩ := kinds_tup X'
    refine ⟨236, its, _, rfl, rfl, by k_asm, by k_asm, hi1, by rw [hi2, sizeLine_eq]; omega, ?_⟩
    rintro s₂ ⟨g, rfl⟩
    refine compT_ind its.size (DcJ [(I, it), (l', W.listOf (strsV ks).toArray kc), (L' + 1 + 1, oc), (L' + 1, o2), (pl, W.listOf (intsV xs').toArray c')] r I l' (L' + 1 + 1) pl) ?turn ?fin _ 0 [] _ (Nat.zero_add _) ⟨[], nw, rfl, fun _ h => (nomatch h), Nat.le_refl _, rfl, ?_, q1, q2, q3, q4⟩
    case turn =>
      rintro i3 ys3 n3 v3 I3 oI3 C3 oC3 D3 m3 h3 tk3 E3 hi9 ⟨ks3, nw3, rfl, hk3, hn3, rfl, a1, a2, a3, a4, a5⟩ hv3 hoC3 hm3 F3 N3 hoff3 hne3
      obtain ⟨k3, t3, rfl, hk4⟩ := hi3 v3 (by rw [← Array.getElem?_toList] at hv3; exact List.mem_of_getElem? hv3)
      dsimp only [List.cons_append, List.nil_append] at N3
      (repeat' ((fail_if_success (with_reducible show wpAny _ _ (pyIter _) _ _ _)); (fail_if_success (with_reducible show wpAny _ _ (exec (Stmt.Assign _ (PySem.Expr.ListComp _ _ _ _) _) _) _ _ _)); (fail_if_success (with_reducible show ∃ _, _)); first | (k_unfold; (try dsimp only)) | (k_end; kc_close) | walk1 | (dsimp only; walk1) | (leave1; walk_say "STEP leave1"; (try dsimp only)) | (refine useX (by with_reducible assumption) ?_; (try dsimp only)) | fail "no step"))
      · exact dc_end (ks := ks3 ++ [(k3, t3)]) (by assumption) (by assumption) hoff3 (by assumption) (fun k hk => by rcases List.mem_append.mp hk with h | h; exact hk3 k h; rw [List.mem_singleton.mp h]; exact hk4) (by rw [List.length_append]; exact Nat.succ_le_succ hn3) (by rw [strsV, strsV, List.map_append]; rfl) a1 a2 a3 a4 a5
      · exact dc_end (f := fun _ => strsV ks3) (ks := ks3) (by assumption) (by assumption) hoff3 (by assumption) hk3 (Nat.le_succ_of_le hn3) rfl a1 a2 a3 a4 a5
    case fin =>
      rintro ys3 n9 ⟨ks3, nw3, rfl, hk3, hn3, rfl, a1, a2, a3, a4, a5⟩ D3 h3 tk3 F3 N3 off3
      dsimp only [List.cons_append, List.nil_append] at N3
      obtain ⟨n1, n2, n3, n4, n5, n6⟩ := off3
      have hD3 : ∀ p ∈ r, p.1 ≠ D3 := fun p hp => by
        exact off1 n6 p (List.mem_append_right nw3 hp : p ∈ nw3 ++ r)
      have l0 : D3 ≠ I ∧ D3 ≠ l' ∧ D3 ≠ L' + 1 + 1 ∧ D3 ≠ pl ∧ ∀ p ∈ r, p.1 ≠ D3 := ⟨fun e => n1 e.symm, fun e => n2 e.symm, fun e => n3 e.symm, fun e => n5 e.symm, hD3⟩
      have b1 : ∀ p ∈ nw3 ++ r, p.1 ≠ pl := fun p hp => (List.mem_append.mp hp).elim (a4 p) (hne p)
      have b3 : ∀ p ∈ nw3 ++ r, p.1 ≠ I := fun p hp => (List.mem_append.mp hp).elim (a1 p) (i5 p)
      have b4 : ∀ p ∈ nw3 ++ r, p.1 ≠ l' := fun p hp => (List.mem_append.mp hp).elim (a2 p) (hr3 p)
      have b2 : ∀ p ∈ nw3 ++ r, p.1 ≠ L' + 1 + 1 := fun p hp => (List.mem_append.mp hp).elim (a3 p) (hr1 p)
      have hks3 : ks3.length < 900 := by rw [hi2] at hn3; omega
      cases ks3 with
      | nil =>
        (repeat' ((fail_if_success (with_reducible show wpAny _ _ (pyIter _) _ _ _)); (fail_if_success (with_reducible show wpAny _ _ (exec (Stmt.Assign _ (PySem.Expr.ListComp _ _ _ _) _) _) _ _ _)); (fail_if_success (with_reducible show ∃ _, _)); first | (k_unfold; (try dsimp only)) | (k_end; kc_close) | walk1 | (dsimp only; walk1) | (leave1; walk_say "STEP leave1"; (try dsimp only)) | (refine useX (by with_reducible assumption) ?_; (try dsimp only)) | fail "no step"))
        exact dr_end (ex := [_, _, _, _]) (by assumption) (by assumption) (ex4 (by assumption) (by assumption) (by assumption) l0) (by assumption) (by with_unfolding_all rfl) (by with_unfolding_all rfl) i1 i2 i3 i4 i5 a1 a2 a3 a4 a5 hl hks (by assumption) (by assumption) (by assumption)
      | cons k3 ks3 =>
        (repeat' ((fail_if_success (with_reducible show wpAny _ _ (pyIter _) _ _ _)); (fail_if_success (with_reducible show wpAny _ _ (exec (Stmt.Assign _ (PySem.Expr.ListComp _ _ _ _) _) _) _ _ _)); (fail_if_success (with_reducible show ∃ _, _)); first | (k_unfold; (try dsimp only)) | (k_end; kc_close) | walk1 | (dsimp only; walk1) | (leave1; walk_say "STEP leave1"; (try dsimp only)) | (refine useX (by with_reducible assumption) ?_; (try dsimp only)) | fail "no step"))
        · exact dr_end (ex := [_, _, _, _]) (by assumption) (by assumption) (ex4 (by assumption) (by assumption) (by assumption) l0) (by assumption) (by with_unfolding_all rfl) (by with_unfolding_all rfl) i1 i2 i3 i4 i5 a1 a2 a3 a4 a5 hl hks (by assumption) (by assumption) (by assumption)
        · exact dr_end (ex := [_, _, _, _]) (by assumption) (by assumption) (ex4 (by assumption) (by assumption) (by assumption) l0) (by assumption) (by with_unfolding_all rfl) (by with_unfolding_all rfl) i1 i2 i3 i4 i5 a1 a2 a3 a4 a5 hl hks (by assumption) (by assumption) (by assumption)
        · exfalso
          have h0 : ((k3 :: ks3).length : Int) = 0 := by assumption
          rw [List.length_cons] at h0
          omega
        · exact dr_end (ex := [_, _, _]) (kk := k3 :: ks3) (by assumption) (by assumption) (ex3 (by assumption) (by assumption) l0) (by assumption) (by with_unfolding_all rfl) (by with_unfolding_all rfl) i1 i2 i3 i4 i5 a1 a2 a3 a4 a5 hl hks (by assumption) hk3 (by assumption)
    · intro p hp
      exact hIn p (List.mem_cons_of_mem _ (List.mem_cons_of_mem _ (List.mem_cons_of_mem _ (List.mem_cons_of_mem _ (List.mem_append_left _ hp)))))
  case jdone =>
    rintro h9 tk9 m9 n9 F9 N9 ⟨l', rfl, xs', c', kc, ks, st, t2, oc, nw, rfl, hoc, hp, hk, q1, q2, q3, q4, hl, hks, hx⟩
    rw [map2 hp hk] at F9
    (repeat' ((fail_if_success (with_reducible show wpAny _ _ (pyIter _) _ _ _)); (fail_if_success (with_reducible show wpAny _ _ (exec (Stmt.Assign _ (PySem.Expr.ListComp _ _ _ _) _) _) _ _ _)); (fail_if_success (with_reducible show ∃ _, _)); first | (k_unfold; (try dsimp only)) | (k_end; kc_close) | walk1 | (dsimp only; walk1) | (leave1; walk_say "STEP leave1"; (try dsimp only)) | (refine useX (by with_reducible assumption) ?_; (try dsimp only)) | fail "no step"))
    have lr : L' + 1 + 1 < l' ∧ L' + 1 < l' ∧ pl < l' ∧ AllLt l' r := by assumption
    rename_i kF kN kX kT
    refine ret _ _ xs' c' l' kc ((L' + 1 + 1, oc) :: (L' + 1, o2) :: nw) ks kF (fun p hp => kN p ?_) ?_ (by omega) hks
    · simp only [List.mem_cons, List.mem_append, List.cons_append] at hp ⊢
      rcases hp with h | h | h | h | h <;> simp [h]
    · simp only [List.forall_mem_cons]
      refine ⟨⟨Nat.ne_of_lt lr.2.2.1, fun p hp => Nat.ne_of_lt (ltOf lr.2.2.2 p hp)⟩, ⟨Nat.ne_of_lt (Nat.lt_of_lt_of_le hlp (Nat.le_trans (Nat.le_succ _) (Nat.le_succ _))), hr1⟩, ⟨Nat.ne_of_lt (Nat.lt_of_lt_of_le hlp (Nat.le_succ _)), hr2⟩, fun q hq => ⟨fun e => q3 q hq e.symm, q4 q hq⟩⟩
end
end

section
theorem start_Pl : True := by
  w_top off
  k_with_none
  (k_with "k_room!" => (((try simp only [depth_under_make, depth_under_kw, depth_in1, depth_deeper, depth_caller]); (try dsimp only [ktrTop]); omega)))
  (k_with "ktr_room!" => (((try simp only [depth_under_make, depth_under_kw, depth_in1, depth_deeper, depth_caller]); (try dsimp only [ktrTop]); omega)))
  (k_with "ktr_units!" => (((try simp only [units_in1, units_deeper, Around.mark_units, units_caller]); (try dsimp only [ktrTop]); omega)))
  (k_with "ktr_rel!" => (first | k_asm | exact rot1 (by k_asm) | exact rot2 (by k_asm) | exact rot3 (by k_asm)))
  (k_with "tb_rel!" => (first | k_asm | exact fun _ h => h | (intro p hp; k_mem)))
  (k_with "size_fits!" => (((try simp only [List.size_toArray, List.length_append, List.length_cons, List.length_nil, PySem.sizeLine_eq]); omega)))
  trivial
open PySem PySem.W PyProof.Rows PySem.Spec
set_option maxRecDepth 100000
noncomputable abbrev AltD := List Dat × List Dat
noncomputable abbrev DeclD := Dat × List Dat
noncomputable abbrev RuleD := Dat × List AltD
/-- what the law gathers: the closed and the open parts -/
structure Acc where
  ds : List DeclD
  cd : Option DeclD
  rs : List RuleD
  cr : Option (RuleD × AltD)
noncomputable def Acc.dsAll (a : Acc) : List DeclD := a.ds ++ a.cd.toList
noncomputable def Acc.rsAll (a : Acc) : List RuleD := a.rs ++ (a.cr.map fun c => (c.1.1, c.1.2 ++ [c.2])).toList
noncomputable def acc0 : Acc := ⟨[], none, [], none⟩
noncomputable def symD (w : Dat) : Dat := .tuple [.str (S "sym"), w]
noncomputable def actD (w : Dat) : Dat := .tuple [.str (S "act"), w]
noncomputable def emptyD : Dat := .tuple [.str (S "empty"), .str (S "")]
noncomputable def addPart (p : Dat) (a : Acc) : Acc := { a with cr := a.cr.map fun c => (c.1, (c.2.1 ++ [p], c.2.2)) }
noncomputable def parted (st k : Str) (w : Dat) (a : Acc) : Acc :=
  if k = S "KIND" then { a with ds := a.dsAll, cd := some (w, []) }
  else if (st = S "bare" ∨ st = S "words") ∧ k ≠ S "MARK" then { a with cd := a.cd.map fun d => (d.1, d.2 ++ [w]) }
  else if k = S "HEAD" then { a with rs := a.rsAll, cr := some ((w, []), ([], [])) }
  else if k = S "BAR" then { a with cr := a.cr.map fun c => ((c.1.1, c.1.2 ++ [c.2]), ([], [])) }
  else if st = S "prec" then { a with cr := a.cr.map fun c => (c.1, (c.2.1, c.2.2 ++ [w])) }
  else if k = S "NAME" ∨ k = S "LITERAL" then addPart (symD w) a
  else if k = S "ACTION" then addPart (actD w) a
  else if k = S "EMPTY" then addPart emptyD a
  else a
noncomputable def nextS (st k : Str) : Option Str := atS (getS st) k
inductive DRes where
  | ok (a : Acc)
  | err (k : Nat)
noncomputable def dueS : List Tk → Nat → Str → Acc → DRes
  | [], _, _, a => .ok a
  | t :: r, k, st, a => match nextS st t.1 with
    | none => .err k
    | some st' => dueS r (k + 1) st' (parted st t.1 t.2.2 a)
noncomputable def altD (a : AltD) : Dat := .tuple [.list a.1, a.2.headD (.str (S ""))]
noncomputable def ruleD (r : RuleD) : Dat := .tuple [r.1, .list (r.2.map altD)]
noncomputable def declD (d : DeclD) : Dat := .tuple [d.1, .list d.2]
noncomputable def atEnds : List (Str × Str) := [(S "HEAD", S "parts"), (S "MARK", S "over"), (S "$end", S "done")]
theorem atS_cons {α : Type} {a k : Str} {y : α} {r : List (Str × α)} : atS ((a, y) :: r) k = if k = a then some y else atS r k := by
  unfold atS
  rw [List.find?_cons]
  by_cases h : a = k
  · subst h; simp
  · simp [h, Ne.symm h]
theorem atS_nil {α : Type} {k : Str} : atS ([] : List (Str × α)) k = none := rfl
theorem getS_begin : getS (S "begin") = [(S "KIND", S "bare"), (S "MARK", S "first")] := by decide +kernel
theorem getS_bare : getS (S "bare") = [(S "NAME", S "words"), (S "LITERAL", S "words"), (S "NUMBER", S "words")] := by decide +kernel
theorem getS_words : getS (S "words") = [(S "KIND", S "bare"), (S "MARK", S "first"), (S "NAME", S "words"), (S "LITERAL", S "words"), (S "NUMBER", S "words")] := by decide +kernel
theorem getS_first : getS (S "first") = [(S "HEAD", S "parts")] := by decide +kernel
theorem getS_parts : getS (S "parts") = endsT ++ [(S "NAME", S "parts"), (S "LITERAL", S "parts"), (S "ACTION", S "parts"), (S "EMPTY", S "parts"), (S "PREC", S "prec")] := by decide +kernel
theorem getS_prec : getS (S "prec") = [(S "NAME", S "named"), (S "LITERAL", S "named")] := by decide +kernel
theorem getS_named : getS (S "named") = endsT ++ [(S "ACTION", S "acted")] := by decide +kernel
theorem getS_acted : getS (S "acted") = endsT := by decide +kernel
theorem getS_closed : getS (S "closed") = atEnds := by decide +kernel
theorem getS_over : getS (S "over") = [(S "$end", S "done")] := by decide +kernel
theorem S_ne {a b : String} (h : decide (S a = S b) = false) : S a ≠ S b := of_decide_eq_false h
theorem nx_begin (k : Str) : nextS (S "begin") k = if k = S "KIND" then some (S "bare") else if k = S "MARK" then some (S "first") else none := by
  rw [nextS, getS_begin]; simp only [atS_cons, atS_nil]
theorem nx_bare (k : Str) : nextS (S "bare") k = if isSym k = true then some (S "words") else none := by
  rw [nextS, getS_bare]; simp only [atS_cons, atS_nil, isSym, Bool.or_eq_true, decide_eq_true_eq]
  split
  · rename_i h; simp [h]
  · rename_i h; split
    · rename_i h2; simp [h2]
    · rename_i h2; split
      · rename_i h3; simp [h3]
      · rename_i h3; simp [h, h2, h3]
theorem nx_words (k : Str) : nextS (S "words") k = if k = S "KIND" then some (S "bare") else if k = S "MARK" then some (S "first") else if isSym k = true then some (S "words") else none := by
  have e := nx_bare k
  rw [nextS, getS_bare] at e
  rw [nextS, getS_words, atS_cons, atS_cons, e]
theorem nx_first (k : Str) : nextS (S "first") k = if k = S "HEAD" then some (S "parts") else none := by
  rw [nextS, getS_first]; simp only [atS_cons, atS_nil]
theorem nx_prec (k : Str) : nextS (S "prec") k = if isNL k = true then some (S "named") else none := by
  rw [nextS, getS_prec]; simp only [atS_cons, atS_nil, isNL, Bool.or_eq_true, decide_eq_true_eq]
  split
  · rename_i h; simp [h]
  · rename_i h; split
    · rename_i h2; simp [h2]
    · rename_i h2; simp [h, h2]
theorem nx_over (k : Str) : nextS (S "over") k = if k = S "$end" then some (S "done") else none := by
  rw [nextS, getS_over]; simp only [atS_cons, atS_nil]
theorem nx_acted (k : Str) : nextS (S "acted") k = atS endsT k := by rw [nextS, getS_acted]
theorem nx_closed (k : Str) : nextS (S "closed") k = atS atEnds k := by rw [nextS, getS_closed]
theorem atS_append {α : Type} {k : Str} : ∀ {p q : List (Str × α)}, (∀ y ∈ q, y.1 ≠ k) → atS (p ++ q) k = atS p k
  | [], q, h => by
    unfold atS
    rw [List.nil_append, List.find?_eq_none.mpr (fun x hx => by simpa using h x hx)]; rfl
  | (a, y) :: p, q, h => by rw [List.cons_append, atS_cons, atS_cons, atS_append h]
theorem nx_named {k : Str} (h : k ≠ S "ACTION") : nextS (S "named") k = atS endsT k := by
  rw [nextS, getS_named]
  exact atS_append fun y hy => by rw [List.mem_singleton.mp hy]; exact h.symm
theorem nx_parts {k : Str} (h : isPart k = false) (h2 : k ≠ S "PREC") : nextS (S "parts") k = atS endsT k := by
  rw [nextS, getS_parts]
  refine atS_append fun y hy => ?_
  simp only [isPart, Bool.or_eq_false_iff, decide_eq_false_iff_not] at h
  simp only [List.mem_cons, List.not_mem_nil, or_false] at hy
  rcases hy with rfl | rfl | rfl | rfl | rfl
  · exact fun e => h.1 e.symm
  · exact fun e => h.2.1 e.symm
  · exact fun e => h.2.2.1 e.symm
  · exact fun e => h.2.2.2 e.symm
  · exact fun e => h2 e.symm
theorem nx_part {k : Str} (h : isPart k = true) : nextS (S "parts") k = some (S "parts") := by
  rcases isPart_or h with h | h | h | h <;> (subst h; decide +kernel)
/-- no state in which parted looks at the state alone -/
structure Plain (st : Str) : Prop where
  a : st ≠ S "bare"
  b : st ≠ S "words"
  c : st ≠ S "prec"
theorem pt_kind (st : Str) (w : Dat) (a : Acc) : parted st (S "KIND") w a = { a with ds := a.dsAll, cd := some (w, []) } := by rw [parted, if_pos rfl]
theorem pt_sym {st k : Str} {w : Dat} {a : Acc} (hs : st = S "bare" ∨ st = S "words") (h : isSym k = true) : parted st k w a = { a with cd := a.cd.map fun d => (d.1, d.2 ++ [w]) } := by
  have h1 : k ≠ S "KIND" := by rcases isSym_or h with h | h | h <;> (subst h; decide)
  have h2 : k ≠ S "MARK" := by rcases isSym_or h with h | h | h <;> (subst h; decide)
  rw [parted, if_neg h1, if_pos ⟨hs, h2⟩]
theorem pt_mark {st : Str} {w : Dat} {a : Acc} (hp : st ≠ S "prec") : parted st (S "MARK") w a = a := by
  rw [parted, if_neg (by decide), if_neg (fun h => h.2 rfl), if_neg (by decide), if_neg (by decide), if_neg hp, if_neg (by decide), if_neg (by decide), if_neg (by decide)]
theorem pt_ne {st k : Str} (P : Plain st) : ¬((st = S "bare" ∨ st = S "words") ∧ k ≠ S "MARK") := fun h => h.1.elim P.a P.b
theorem pt_head {st : Str} {w : Dat} {a : Acc} (P : Plain st) : parted st (S "HEAD") w a = { a with rs := a.rsAll, cr := some ((w, []), ([], [])) } := by
  rw [parted, if_neg (by decide), if_neg (pt_ne P), if_pos rfl]
theorem pt_bar {st : Str} {w : Dat} {a : Acc} (P : Plain st) : parted st (S "BAR") w a = { a with cr := a.cr.map fun c => ((c.1.1, c.1.2 ++ [c.2]), ([], [])) } := by
  rw [parted, if_neg (by decide), if_neg (pt_ne P), if_neg (by decide), if_pos rfl]
theorem pt_no {st k : Str} {w : Dat} {a : Acc} (P : Plain st) (h : k = S "SEMI" ∨ k = S "PREC" ∨ k = S "$end") : parted st k w a = a := by
  rcases h with h | h | h <;> subst h <;>
  rw [parted, if_neg (by decide), if_neg (pt_ne P), if_neg (by decide), if_neg (by decide), if_neg P.c, if_neg (by decide), if_neg (by decide), if_neg (by decide)]
theorem pt_prec {k : Str} {w : Dat} {a : Acc} (h : isNL k = true) : parted (S "prec") k w a = { a with cr := a.cr.map fun c => (c.1, (c.2.1, c.2.2 ++ [w])) } := by
  have h' : k = S "NAME" ∨ k = S "LITERAL" := by unfold isNL at h; simpa using h
  have hn : ¬((S "prec" = S "bare" ∨ S "prec" = S "words") ∧ k ≠ S "MARK") := fun q => absurd q.1 (by decide)
  rcases h' with rfl | rfl <;> rw [parted, if_neg (by decide), if_neg hn, if_neg (by decide), if_neg (by decide), if_pos rfl]
theorem pt_part {st k : Str} {w : Dat} {a : Acc} (P : Plain st) (h : isPart k = true) : parted st k w a = addPart (partDat k w) a := by
  rcases isPart_or h with h | h | h | h
  · subst h; rw [parted, if_neg (by decide), if_neg (pt_ne P), if_neg (by decide), if_neg (by decide), if_neg P.c, if_pos (.inl rfl), partDat, if_neg (by decide), if_neg (by decide)]; rfl
  · subst h; rw [parted, if_neg (by decide), if_neg (pt_ne P), if_neg (by decide), if_neg (by decide), if_neg P.c, if_pos (.inr rfl), partDat, if_neg (by decide), if_neg (by decide)]; rfl
  · subst h; rw [parted, if_neg (by decide), if_neg (pt_ne P), if_neg (by decide), if_neg (by decide), if_neg P.c, if_neg (by decide), if_pos rfl, partDat, if_neg (by decide), if_pos rfl]; rfl
  · subst h; rw [parted, if_neg (by decide), if_neg (pt_ne P), if_neg (by decide), if_neg (by decide), if_neg P.c, if_neg (by decide), if_neg (by decide), if_pos rfl, partDat, if_pos rfl]; rfl
theorem plain_parts : Plain (S "parts") := ⟨by decide, by decide, by decide⟩
theorem plain_named : Plain (S "named") := ⟨by decide, by decide, by decide⟩
theorem plain_acted : Plain (S "acted") := ⟨by decide, by decide, by decide⟩
theorem plain_closed : Plain (S "closed") := ⟨by decide, by decide, by decide⟩
theorem plain_first : Plain (S "first") := ⟨by decide, by decide, by decide⟩
theorem plain_over : Plain (S "over") := ⟨by decide, by decide, by decide⟩
section
variable {toks : List Tk}
noncomputable def T (toks : List Tk) (k : Nat) (st : Str) (a : Acc) : DRes := dueS (toks.drop k) k st a
theorem T_step {k : Nat} {t : Tk} {st st' : Str} {a : Acc} (h : toks[k]? = some t) (e : nextS st t.1 = some st') : T toks k st a = T toks (k + 1) st' (parted st t.1 t.2.2 a) := by
  obtain ⟨hk, rfl⟩ := List.getElem?_eq_some_iff.mp h
  rw [T, T, List.drop_eq_getElem_cons hk, dueS, e]
theorem T_err {k : Nat} {t : Tk} {st : Str} {a : Acc} (h : toks[k]? = some t) (e : nextS st t.1 = none) : T toks k st a = .err k := by
  obtain ⟨hk, rfl⟩ := List.getElem?_eq_some_iff.mp h
  rw [T, List.drop_eq_getElem_cons hk, dueS, e]
/-- a state in which an alternative may end -/
structure Ends (es : List (Str × Str)) (st kd : Str) : Prop where
  p : Plain st
  n : nextS st kd = atS es kd
noncomputable def AltOk (toks : List Tk) (c : RuleD) (a : Acc) (k : Nat) (al : AltD) (st : Str) : Res Dat → Prop
  | .err e => T toks k st { a with cr := some (c, al) } = .err e
  | .ok D k' => ∃ al' st', D = altD al' ∧ T toks k st { a with cr := some (c, al) } = T toks k' st' { a with cr := some (c, al') } ∧ Live (toks.drop k') ∧ Ends endsT st' (kindAt toks k')
theorem live_cons {k : Nat} {t : Tk} {r : List Tk} (h : Live r) (e : toks.drop k = r) (hv : toks[k]? = some t) (hn : t.1 ≠ S "$end") : Live (toks.drop (k + 1)) := live_next (e ▸ h) hv hn
theorem alt_plain (c : RuleD) (a : Acc) : ∀ (r : List Tk) (k : Nat) (acc : List Dat), toks.drop k = r → Live r → AltOk toks c a k (acc, []) (S "parts") (altS k acc r)
  | [], _, _, _, h => absurd rfl h.ne
  | t :: r, k, acc, e, hl => by
    have hv := drop_get e
    have hd := drop_next e
    cases hp : isPart t.1 with
    | true =>
      rw [altS, if_pos hp]
      have ih := alt_plain c a r (k + 1) (acc ++ [partDat t.1 t.2.2]) hd (hl.tail (isPart_ne hp))
      have es : T toks k (S "parts") { a with cr := some (c, (acc, [])) } = T toks (k + 1) (S "parts") { a with cr := some (c, (acc ++ [partDat t.1 t.2.2], [])) } := by
        rw [T_step hv (nx_part hp), pt_part plain_parts hp]; rfl
      cases ha : altS (k + 1) (acc ++ [partDat t.1 t.2.2]) r with
      | err x => rw [ha] at ih; exact es.trans ih
      | ok D k' =>
        rw [ha] at ih
        obtain ⟨al', st', h1, h2, h3⟩ := ih
        exact ⟨al', st', h1, es.trans h2, h3⟩
    | false =>
      rw [altS, if_neg (by rw [hp]; decide)]
      by_cases hq : t.1 = S "PREC"
      · have es : T toks k (S "parts") { a with cr := some (c, (acc, [])) } = T toks (k + 1) (S "prec") { a with cr := some (c, (acc, [])) } := by
          rw [T_step hv (st' := S "prec") (by rw [hq]; decide +kernel), pt_no plain_parts (.inr (.inl hq))]
        have hl1 : Live r := hl.tail (by rw [hq]; decide)
        cases r with
        | nil => exact absurd rfl hl1.ne
        | cons u r2 =>
          have hv1 := drop_get hd
          have hd1 := drop_next hd
          cases hn : isNL u.1 with
          | false =>
            rw [altTail_e hq hn]
            exact es.trans (T_err hv1 (by rw [nx_prec, if_neg (by rw [hn]; decide)]))
          | true =>
            have hl2 : Live r2 := hl1.tail (by intro q; rw [q] at hn; revert hn; decide)
            have es2 : T toks (k + 1) (S "prec") { a with cr := some (c, (acc, [])) } = T toks (k + 2) (S "named") { a with cr := some (c, (acc, [u.2.2])) } := by
              rw [T_step hv1 (st' := S "named") (by rw [nx_prec, if_pos hn]), pt_prec hn]; rfl
            cases r2 with
            | nil => exact absurd rfl hl2.ne
            | cons v r3 =>
              have hv2 := drop_get hd1
              rw [altTail_p hq, if_pos hn]
              by_cases ha : v.1 = S "ACTION"
              · rw [if_pos ha]
                have hpv : isPart v.1 = true := by rw [ha]; decide
                refine ⟨(acc ++ [partDat v.1 v.2.2], [u.2.2]), S "acted", rfl, es.trans (es2.trans ?_), ?_, ⟨plain_acted, nx_acted _⟩⟩
                · rw [T_step hv2 (st' := S "acted") (by rw [ha]; decide +kernel), pt_part plain_named hpv]; rfl
                · rw [drop_next hd1]; exact hl2.tail (by rw [ha]; decide)
              · rw [if_neg ha]
                exact ⟨(acc, [u.2.2]), S "named", rfl, es.trans es2, by rw [hd1]; exact hl2, ⟨plain_named, nx_named (by rw [kindAt_of hv2]; exact ha)⟩⟩
      · rw [altTail_np hq]
        exact ⟨(acc, []), S "parts", rfl, rfl, by rw [e]; exact hl, ⟨plain_parts, by rw [kindAt_of hv]; exact nx_parts hp hq⟩⟩
end
end

section
theorem start_Tn : True := by
  w_top off
  k_with_none
  (k_with "k_room!" => (((try simp only [depth_under_make, depth_under_kw, depth_in1, depth_deeper, depth_caller]); (try dsimp only [ktrTop]); omega)))
  (k_with "ktr_room!" => (((try simp only [depth_under_make, depth_under_kw, depth_in1, depth_deeper, depth_caller]); (try dsimp only [ktrTop]); omega)))
  (k_with "ktr_units!" => (((try simp only [units_in1, units_deeper, Around.mark_units, units_caller]); (try dsimp only [ktrTop]); omega)))
  (k_with "ktr_rel!" => (first | k_asm | exact rot1 (by k_asm) | exact rot2 (by k_asm) | exact rot3 (by k_asm)))
  (k_with "tb_rel!" => (first | k_asm | exact fun _ h => h | (intro p hp; k_mem)))
  (k_with "size_fits!" => (((try simp only [List.size_toArray, List.length_append, List.length_cons, List.length_nil, PySem.sizeLine_eq]); omega)))
  (k_with "call ref!" => (k_here; (try dsimp only [List.nil_append, List.cons_append]); (with_reducible show wpAny _ _ (call (Value.ref 179) _ _) _ _ _); k_dflt (refine' kind_c ?zzC ?zzF ?zzN ?zzhf ?zzR ?zzhv ?_; (case zzF => k_asm); (case zzN => ktr_rel); (case zzC => tb_start); (case zzR => k_asm); (case zzhf => tb_rel); (case zzhv => assumption); k_whole; intro _ _ _ _ _; (try k_sweep))))
  (k_with "call ref!" => (k_here; (try dsimp only [List.nil_append, List.cons_append]); (with_reducible show wpAny _ _ (call (Value.ref 186) _ _) _ _ _); k_dflt (refine' take_c ?zzC ?zzF ?zzN ?zzhne ?zzhf ?zzR ?zzhv ?_; (case zzF => k_asm); (case zzN => ktr_rel); (case zzC => tb_start); (case zzR => k_asm); (case zzhf => tb_rel); (case zzhv => assumption); (case zzhne => k_all); k_whole; intro _ _ _ _ _; (try k_sweep))))
  (k_with "call builtin:len!" => (k_here; (with_reducible show wpAny _ _ (call (Value.builtin "len") [Value.ref _]) _ _ _); k_dflt (refine' kst_len ?zzk1 ?zzk2 ?zzk3 ?zzk4 ?_; (case zzk1 => k_asm); (case zzk2 => k_mem); (case zzk3 => exact rfl); (case zzk4 => first | omega | ((try simp only [List.length_cons, List.length_nil, List.length_append]); omega)); k_whole)))
  (k_with "compareOp Eq int int!" => (k_here; (with_reducible show wpAny _ _ (compareOp CmpOp.Eq (Value.int _ _) (Value.int _ _)) _ _ _); k_dflt (refine' eq_intF ?zza ?_; (case zza => omega))))
  (k_with "call builtin:dict.get!" => (k_here; k_dflt (refine' get_worth1 (n := at_) ?zzzN ?zzzp ?zzzl ?zzzd (fun _ _ _ => ?_); (case zzzN => k_asm); (case zzzp => k_mem); (case zzzd => k_asm); (case zzzl => k_asm)); (have hH' := WorthIs.handed (by assumption))))
  (k_with "compareOp Is!" => (k_here; (with_reducible show wpAny _ _ (compareOp CmpOp.Is _ Value.none) _ _ _); k_dflt (refine' is_none_ways ?zzzp (fun _ => ?_) (fun _ => ?_); (case zzzp => exact WorthIs.plain (by assumption)))))
  (k_with "eval Name!" => (k_here; k_dflt (refine' ld ?zzzF ?zzzv ?_ ?zzza ?zzzb; (case zzzF => assumption); (case zzza => assumption); (case zzzb => assumption); (case zzzv => with_reducible assumption); k_whole)))
  (k_with "eval IfExp!" => (k_here; k_dflt (refine' text_if ?zzzX ?zzzF ?zzzN ?zzzm ?zzzk ?zzzx (fun _ _ => ?_); (case zzzX => k_asm); (case zzzF => k_asm); (case zzzN => k_asm); (case zzzm => rfl); (case zzzk => rfl); (case zzzx => rfl))))
  trivial
open PySem PySem.W PyProof.Rows PySem.Spec PySem.Calls PyProof.V PyProof.Rows.LCg PyProof.Rows.LCt
set_option maxRecDepth 100000
set_option maxHeartbeats 1000000
noncomputable def numS (n : Nat) : Str := Str.ofString (toString (n : Int))
/-- what a token of the law is worth -/
noncomputable def worthD (kd : Str) (n : Nat) : Dat :=
  if kd = S "KIND" then .str (S "left") else if kd = S "NAME" then .str (S "n" ++ numS n) else if kd = S "LITERAL" then .str (S "'+'") else if kd = S "NUMBER" then .int n
  else if kd = S "HEAD" then .tuple [.str (S "h" ++ numS n), .int (1 + (n : Int).fdiv 3)] else if kd = S "ACTION" then .str (S "do" ++ numS n) else if kd = S "EMPTY" then .str (S "%empty") else .str kd
/-- what `.get(kind)` may give -/
noncomputable def WorthIs (kd : Str) (n : Nat) (D : Addr) (u : Tok) (v : Value) : Prop :=
  (∃ x t, v = .str x t ∧ worthD kd n = .str x ∧ (kd == S "EMPTY") = false) ∨ (v = .int n u ∧ worthD kd n = .int n ∧ (kd == S "EMPTY") = false) ∨
  (v = .ref D ∧ worthD kd n = .tuple [.str (S "h" ++ numS n), .int (1 + (n : Int).fdiv 3)] ∧ (kd == S "EMPTY") = false) ∨
  (v = .none ∧ worthD kd n = .str (S "%empty") ∧ (kd == S "EMPTY") = true) ∨ (v = .none ∧ worthD kd n = .str kd ∧ (kd == S "EMPTY") = false)
theorem WorthIs.handed {kd : Str} {n : Nat} {D : Addr} {u : Tok} {v : Value} (h : WorthIs kd n D u v) : handedIn v = true := by
  rcases h with ⟨_, _, rfl, _⟩ | ⟨rfl, _⟩ | ⟨rfl, _⟩ | ⟨rfl, _⟩ | ⟨rfl, _⟩ <;> rfl
theorem WorthIs.plain {kd : Str} {n : Nat} {D : Addr} {u : Tok} {v : Value} (h : WorthIs kd n D u v) : plainIs v .none = true := by
  rcases h with ⟨_, _, rfl, _⟩ | ⟨rfl, _⟩ | ⟨rfl, _⟩ | ⟨rfl, _⟩ | ⟨rfl, _⟩ <;> rfl
theorem is_none_ways {M : Model} {A : Around} {E : Value → Shared → Prop} {s : Shared} {Q : Value → Shared → Prop} {v : Value} (hp : plainIs v .none = true) (h1 : v = .none → Q (.bool true) s) (h2 : v ≠ .none → Q (.bool false) s) : wpAny M A (compareOp .Is v .none) Q E s := by
  by_cases e : v = .none
  · subst e; exact wpAny_is_self hp (h1 rfl)
  · exact wpAny_is_other hp e (h2 e)
noncomputable def textS (kd : Str) : Str := if kd = S "EMPTY" then S "%empty" else kd
/-- what the token holds, way by way -/
theorem WorthIs.dat {kd : Str} {n : Nat} {D : Addr} {u t : Tok} {v : Value} {tup : Obj} {t1 t2 : Tok} {c : Nat} (ht : tup = { cls := .type "tuple", data := .seq [.str (S "h" ++ numS n) t1, .int (1 + (n : Int).fdiv 3) t2].toArray c }) (h : WorthIs kd n D u v) :
    (v ≠ .none → DatIn [(D, tup)] v (worthD kd n)) ∧ (v = .none → DatIn [(D, tup)] (.str (textS kd) t) (worthD kd n)) := by
  subst ht
  rcases h with ⟨x, t, rfl, e2, b⟩ | ⟨rfl, e2, b⟩ | ⟨rfl, e2, b⟩ | ⟨rfl, e2, b⟩ | ⟨rfl, e2, b⟩ <;> rw [e2]
  · exact ⟨fun _ => .str _ _, (fun h => nomatch h)⟩
  · exact ⟨fun _ => .int _ _, (fun h => nomatch h)⟩
  · exact ⟨fun _ => DatIn.tuple (vs := [_, _]) (.head _) (.cons (.str _ _) (.cons (.int _ _) .nil)), (fun h => nomatch h)⟩
  · refine ⟨fun h => absurd rfl h, fun _ => ?_⟩
    rw [textS, if_pos (beq_iff_eq.mp b)]
    exact .str _ _
  · refine ⟨fun h => absurd rfl h, fun _ => ?_⟩
    rw [textS, if_neg (beq_eq_false_iff_ne.mp b)]
    exact .str _ _
theorem va_cons {a k : Str} {y : Value} {r : List (Str × Value)} : valueAt ((a, y) :: r) k = if k = a then some y else valueAt r k := by
  unfold valueAt
  rw [List.find?_cons]
  by_cases h : a = k
  · subst h; simp
  · simp [h, Ne.symm h]
theorem tokIn_mk {fz : List (Addr × Obj)} {kd : Str} {wv : Value} {off : Int} {xt dxt px dpx : Addr} {h1 h2 h3 h4 g1 g2 g3 : Int} {t1 t2 t3 t4 t5 u1 u2 u3 u4 : Tok} {n2 n3 : Nat} {vtx vl vc : Value} (a : (xt, instObj 121 dxt) ∈ fz)
    (b : (dxt, dictOf [⟨h1, .str (Str.ofString "kind") t1, .str kd t5⟩, ⟨h2, .str (Str.ofString "text") t2, vtx⟩, ⟨h3, .str (Str.ofString "at") t3, .ref px⟩, ⟨h4, .str (Str.ofString "worth") t4, wv⟩] n2) ∈ fz)
    (c : (px, instObj 45 dpx) ∈ fz) (d : (dpx, dictOf [⟨g1, .str (Str.ofString "offset") u1, .int off u4⟩, ⟨g2, .str (Str.ofString "line") u2, vl⟩, ⟨g3, .str (Str.ofString "column") u3, vc⟩] n3) ∈ fz) : TokIn fz (.ref xt) kd wv off :=
  ⟨xt, dxt, px, dpx, h1, h2, h3, h4, g1, g2, g3, t1, t2, t3, t4, t5, u1, u2, u3, u4, n2, n3, vtx, vl, vc, rfl, a, b, c, d⟩
section
variable {w : World} {A : Around} {E : Value → Shared → Prop} {s : Shared} {h₀ : Heap} {L d D : Addr} {news : List (Addr × Obj)} {o : Obj} {kd x1 : Str} {t1 u1 t2 u2 t3 u3 t4 u4 t5 t6 u6 tkd : Tok} {n : Nat} {Q : Value → Shared → Prop}
theorem get_worth (N : News h₀ L s.heap news) (hp : (d, o) ∈ news) (lo : (d == sysModules) = false)
    (hd : o.IsDictOf (PySem.strKind PG w) (strPairs [(.str (S "KIND") t1, .str (S "left") u1), (.str (S "NAME") t2, .str (S "n" ++ Str.ofString (toString (n : Int))) u2), (.str (S "LITERAL") t3, .str (S "'+'") u3), (.str (S "NUMBER") t4, .int n u4), (.str (S "HEAD") t5, .ref D), (.str (S "ACTION") t6, .str (S "do" ++ Str.ofString (toString (n : Int))) u6)]))
    (k1 : ∀ x t tk', worthD kd n = .str x → (kd == S "EMPTY") = false → Q (.str x t) { s with toks := tk' })
    (k2 : ∀ tk', worthD kd n = .int n → (kd == S "EMPTY") = false → Q (.int n u4) { s with toks := tk' })
    (k3 : ∀ tk', worthD kd n = .tuple [.str (S "h" ++ numS n), .int (1 + (n : Int).fdiv 3)] → (kd == S "EMPTY") = false → Q (.ref D) { s with toks := tk' })
    (k4 : ∀ tk', worthD kd n = .str (S "%empty") → (kd == S "EMPTY") = true → Q .none { s with toks := tk' })
    (k5 : ∀ tk', worthD kd n = .str kd → (kd == S "EMPTY") = false → Q .none { s with toks := tk' }) :
    wpAny (model PG w) A (call (.builtin "dict.get") [.ref d, .str kd tkd]) Q E s := by
  refine kdg_get1 N hp hd lo (strKind_is _ _ _ _) _ rfl ?_
  simp only [strPairs, va_cons]
  by_cases c1 : kd = S "KIND"
  · rw [if_pos c1]; exact k1 _ _ _ (by rw [worthD, if_pos c1]) (by rw [c1]; decide)
  by_cases c2 : kd = S "NAME"
  · rw [if_neg c1, if_pos c2]; exact k1 _ _ _ (by rw [worthD, if_neg c1, if_pos c2]; rfl) (by rw [c2]; decide)
  by_cases c3 : kd = S "LITERAL"
  · rw [if_neg c1, if_neg c2, if_pos c3]; exact k1 _ _ _ (by rw [worthD, if_neg c1, if_neg c2, if_pos c3]) (by rw [c3]; decide)
  by_cases c4 : kd = S "NUMBER"
  · rw [if_neg c1, if_neg c2, if_neg c3, if_pos c4]; exact k2 _ (by rw [worthD, if_neg c1, if_neg c2, if_neg c3, if_pos c4]) (by rw [c4]; decide)
  by_cases c5 : kd = S "HEAD"
  · rw [if_neg c1, if_neg c2, if_neg c3, if_neg c4, if_pos c5]; exact k3 _ (by rw [worthD, if_neg c1, if_neg c2, if_neg c3, if_neg c4, if_pos c5]) (by rw [c5]; decide)
  by_cases c6 : kd = S "ACTION"
  · rw [if_neg c1, if_neg c2, if_neg c3, if_neg c4, if_neg c5, if_pos c6]; exact k1 _ _ _ (by rw [worthD, if_neg c1, if_neg c2, if_neg c3, if_neg c4, if_neg c5, if_pos c6]; rfl) (by rw [c6]; decide)
  rw [if_neg c1, if_neg c2, if_neg c3, if_neg c4, if_neg c5, if_neg c6]
  by_cases c7 : kd = S "EMPTY"
  · exact k4 _ (by rw [worthD, if_neg c1, if_neg c2, if_neg c3, if_neg c4, if_neg c5, if_neg c6, if_pos c7]) (by rw [c7]; decide)
  · exact k5 _ (by rw [worthD, if_neg c1, if_neg c2, if_neg c3, if_neg c4, if_neg c5, if_neg c6, if_neg c7]) (beq_eq_false_iff_ne.mpr c7)
theorem get_worth1 (N : News h₀ L s.heap news) (hp : (d, o) ∈ news) (lo : (d == sysModules) = false)
    (hd : o.IsDictOf (PySem.strKind PG w) (strPairs [(.str (S "KIND") t1, .str (S "left") u1), (.str (S "NAME") t2, .str (S "n" ++ Str.ofString (toString (n : Int))) u2), (.str (S "LITERAL") t3, .str (S "'+'") u3), (.str (S "NUMBER") t4, .int n u4), (.str (S "HEAD") t5, .ref D), (.str (S "ACTION") t6, .str (S "do" ++ Str.ofString (toString (n : Int))) u6)]))
    (k : ∀ v tk', WorthIs kd n D u4 v → Q v { s with toks := tk' }) :
    wpAny (model PG w) A (call (.builtin "dict.get") [.ref d, .str kd tkd]) Q E s :=
  get_worth N hp lo hd (fun x t tk' a b => k _ _ (.inl ⟨x, t, rfl, a, b⟩)) (fun tk' a b => k _ _ (.inr (.inl ⟨rfl, a, b⟩))) (fun tk' a b => k _ _ (.inr (.inr (.inl ⟨rfl, a, b⟩)))) (fun tk' a b => k _ _ (.inr (.inr (.inr (.inl ⟨rfl, a, b⟩))))) (fun tk' a b => k _ _ (.inr (.inr (.inr (.inr ⟨rfl, a, b⟩)))))
theorem tok_end {h' : Heap} {x d' px dpx D dd : Addr} {tup od : Obj} {r : List (Addr × Obj)} {W : Dat} {kd : Str} {wv : Value} {off : Int} {h1 h2 h3 h4 g1 g2 g3 : Int} {t1 t2 t3 t4 t5 u1 u2 u3 u4 : Tok} {n2 n3 : Nat} {vtx vl vc : Value} {p2 p3 p5 : Prop}
    (N : News h₀ L h' ((x, instObj 121 d') :: (d', dictOf [⟨h1, .str (Str.ofString "kind") t1, .str kd t5⟩, ⟨h2, .str (Str.ofString "text") t2, vtx⟩, ⟨h3, .str (Str.ofString "at") t3, .ref px⟩, ⟨h4, .str (Str.ofString "worth") t4, wv⟩] n2) ::
      (px, instObj 45 dpx) :: (dpx, dictOf [⟨g1, .str (Str.ofString "offset") u1, .int off u4⟩, ⟨g2, .str (Str.ofString "line") u2, vl⟩, ⟨g3, .str (Str.ofString "column") u3, vc⟩] n3) :: (D, tup) :: (dd, od) :: r))
    (l0 : ∀ p ∈ r, p.1 < dd) (l1 : dd < D ∧ p2) (l2 : D < dpx ∧ p3) (l3 : dpx < px) (l4 : px < d' ∧ p5) (l5 : d' < x) (hw : DatIn [(D, tup)] wv W) :
    ∃ nw, News h₀ L h' (nw ++ r) ∧ (∀ q ∈ nw, ∀ p ∈ r, p.1 ≠ q.1) ∧ TokIn nw (.ref x) kd wv off ∧ DatIn nw wv W := by
  refine ⟨[_, _, _, _, _, _], N, ?_, tokIn_mk (.head _) (.tail _ (.head _)) (.tail _ (.tail _ (.head _))) (.tail _ (.tail _ (.tail _ (.head _)))), hw.mono fun p hp => ?_⟩
  · have a1 : ∀ p ∈ r, p.1 < D := fun p hp => Nat.lt_trans (l0 p hp) l1.1
    have a2 : ∀ p ∈ r, p.1 < dpx := fun p hp => Nat.lt_trans (a1 p hp) l2.1
    have a3 : ∀ p ∈ r, p.1 < px := fun p hp => Nat.lt_trans (a2 p hp) l3
    have a4 : ∀ p ∈ r, p.1 < d' := fun p hp => Nat.lt_trans (a3 p hp) l4.1
    have a5 : ∀ p ∈ r, p.1 < x := fun p hp => Nat.lt_trans (a4 p hp) l5
    simp only [List.forall_mem_cons]
    exact ⟨fun p hp => Nat.ne_of_lt (a5 p hp), fun p hp => Nat.ne_of_lt (a4 p hp), fun p hp => Nat.ne_of_lt (a3 p hp), fun p hp => Nat.ne_of_lt (a2 p hp), fun p hp => Nat.ne_of_lt (a1 p hp), fun p hp => Nat.ne_of_lt (l0 p hp), fun _ h => (nomatch h)⟩
  · rw [List.mem_singleton.mp hp]
    exact .tail _ (.tail _ (.tail _ (.tail _ (.head _))))
end
section
variable {w : World} {mean : ExcName → Option Value} {mg mb : Str → Option Value} {dp un : Nat} {gd : Option (List Code)} {cn : Str} {cs : Scope} {a : Addr} {ccd : Value} {cl : List (Str × Addr)} {outer : List Env} {A₀ : Around} {base h₀ : Heap} {L : Addr} {m : Str → Option Value} {s : Shared} {Q E : Value → Shared → Prop}
  {r : List (Addr × Obj)} {kd : Str} {tkd ta : Tok} {at_ : Nat}
theorem text_if {p1 p2 p3 p4 p5 p6 : Pos} {c1 c2 : Nat} (X : (Mine.K0 w.params).In h₀) (F : Fr h₀ L s.heap m) (N : News h₀ L s.heap r) (hm : m (Str.ofString "kind") = some (.str kd tkd)) (hk : cs.kind = .function) (hx : (envOf cn cs L a ccd).kindOf (Str.ofString "kind") = some .local)
  (ret : ∀ t tk', Q (.str (textS kd) t) { s with toks := tk' }) :
  wpAny (model PG w) (ktrTop dp un gd cn cs L a ccd cl outer) (eval (.IfExp (.Compare (.Name (Str.ofString "kind") p1) [.Eq] [.Constant (.str (Str.ofString "EMPTY")) c1 p2] p3) (.Constant (.str (Str.ofString "%empty")) c2 p4) (.Name (Str.ofString "kind") p5) p6) (envOf cn cs L a ccd)) Q E s := by
  have hMk := kstMark
  cases hb : (kd == S "EMPTY") with
  | true =>
    have e : textS kd = S "%empty" := by rw [textS, if_pos (beq_iff_eq.mp hb)]
    rw [e] at ret
    (repeat' (first | (k_unfold; (try dsimp only)) | (k_end; kc_close) | (walk1) | (dsimp only; walk1) | (leave1; walk_say "STEP leave1"; (try dsimp only)) | fail "no step"))
    exact ret _ _
  | false =>
    have e : textS kd = kd := by rw [textS, if_neg (beq_eq_false_iff_ne.mp hb)]
    rw [e] at ret
    (repeat' (first | (k_unfold; (try dsimp only)) | (k_end; kc_close) | (walk1) | (dsimp only; walk1) | (leave1; walk_say "STEP leave1"; (try dsimp only)) | fail "no step"))
    exact ret _ _
theorem token_c (C : Cx w mean mg mb dp un cs A₀ base outer h₀ 12) (F : Fr h₀ L s.heap m) (N : News h₀ L s.heap r) (hat : at_ < 20)
  (ret : ∀ h' tk' v nw wv, Fr h₀ L h' m → News h₀ L h' (nw ++ r) → (∀ q ∈ nw, ∀ p ∈ r, p.1 ≠ q.1) → TokIn nw v kd wv (7 * (at_ : Int)) → DatIn nw wv (worthD kd at_) → Q v { s with heap := h', toks := tk' }) :
  wpAny (model PG w) (ktrTop dp un gd cn cs L a ccd cl outer) (call (.ref 262) [.str kd tkd, .int (at_ : Int) ta]) Q E s := by
  obtain ⟨B, X, T, hk, hd, hu⟩ := C
  have hMk := kstMark
  refine wpAny_call ?_
  k_dflt ktr_enter
  (repeat' (first | (k_unfold; (try dsimp only)) | (k_end; kc_close) | (walk1) | (dsimp only; walk1) | (leave1; walk_say "STEP leave1"; (try dsimp only)) | fail "no step"))
  all_goals (rename_i kF kN kT' kX'; rename WorthIs _ _ _ _ _ => hW; (obtain ⟨nw, n1, n2, n3, n4⟩ := tok_end (W := worthD kd at_) kN (by assumption) (by assumption) (by assumption) (by assumption) (by assumption) (by assumption) (by first | exact (WorthIs.dat (t := default) rfl hW).1 (by assumption) | exact (WorthIs.dat rfl hW).2 (by assumption))); exact ret _ _ _ nw _ kF n1 n2 n3 n4)
end
end

section
theorem start_Pt : True := by
  w_top off
  k_with_none
  (k_with "k_room!" => (((try simp only [depth_under_make, depth_under_kw, depth_in1, depth_deeper, depth_caller]); (try dsimp only [ktrTop]); omega)))
  (k_with "ktr_room!" => (((try simp only [depth_under_make, depth_under_kw, depth_in1, depth_deeper, depth_caller]); (try dsimp only [ktrTop]); omega)))
  (k_with "ktr_units!" => (((try simp only [units_in1, units_deeper, Around.mark_units, units_caller]); (try dsimp only [ktrTop]); omega)))
  (k_with "ktr_rel!" => (first | k_asm | exact rot1 (by k_asm) | exact rot2 (by k_asm) | exact rot3 (by k_asm)))
  (k_with "tb_rel!" => (first | k_asm | exact fun _ h => h | (intro p hp; k_mem)))
  (k_with "size_fits!" => (((try simp only [List.size_toArray, List.length_append, List.length_cons, List.length_nil, PySem.sizeLine_eq]); omega)))
  (k_with "call ref!" => (k_here; (try dsimp only [List.nil_append, List.cons_append]); (with_reducible show wpAny _ _ (call (Value.ref 179) _ _) _ _ _); k_dflt (refine' kind_c ?zzC ?zzF ?zzN ?zzhf ?zzR ?zzhv ?_; (case zzF => k_asm); (case zzN => ktr_rel); (case zzC => tb_start); (case zzR => k_asm); (case zzhf => tb_rel); (case zzhv => assumption); k_whole; intro _ _ _ _ _; (try k_sweep))))
  (k_with "call ref!" => (k_here; (try dsimp only [List.nil_append, List.cons_append]); (with_reducible show wpAny _ _ (call (Value.ref 186) _ _) _ _ _); k_dflt (refine' take_c ?zzC ?zzF ?zzN ?zzhne ?zzhf ?zzR ?zzhv ?_; (case zzF => k_asm); (case zzN => ktr_rel); (case zzC => tb_start); (case zzR => k_asm); (case zzhf => tb_rel); (case zzhv => assumption); (case zzhne => k_all); k_whole; intro _ _ _ _ _; (try k_sweep))))
  (k_with "call ref!" => (k_here; (try dsimp only [List.nil_append, List.cons_append]); (with_reducible show wpAny _ _ (call (Value.ref 193) _ _) _ _ _); k_dflt (refine' refuse_c ?zzC ?zzF ?zzN ?zzhf ?zzR ?zzhv ?_; (case zzF => k_asm); (case zzN => ktr_rel); (case zzC => tb_start); (case zzR => k_asm); (case zzhf => tb_rel); (case zzhv => assumption); k_whole; intro _ _ _ _ _ _ _ _ _ _ _)))
  (k_with "compareOp In str ref!" => (k_here; (with_reducible show wpAny _ _ (compareOp CmpOp.In (Value.str _ _) (Value.ref 127)) _ _ _); k_dflt (refine' in_part ?zzF ?zzX ?zzT ?zzN ?zzb ?_; (case zzF => k_asm); (case zzX => k_asm); (case zzT => k_asm); (case zzN => exact News.nil); (case zzb => assumption); k_whole)))
  (k_with "compareOp In str ref!" => (k_here; (with_reducible show wpAny _ _ (compareOp CmpOp.In (Value.str _ _) (Value.ref 126)) _ _ _); k_dflt (refine' in_sym ?zzF ?zzX ?zzu ?zzb ?_; (case zzF => k_asm); (case zzX => k_asm); (case zzu => ktr_units); (case zzb => assumption); k_whole; intro _)))
  (k_with "compareOp Eq str str!" => (k_here; (with_reducible show wpAny _ _ (compareOp CmpOp.Eq (Value.str _ _) (Value.str _ _)) _ _ _); k_dflt (refine' eq_strB ?zzb ?_; (case zzb => with_reducible assumption); k_whole)))
  (k_with "compareOp NotEq str str!" => (k_here; (with_reducible show wpAny _ _ (compareOp CmpOp.NotEq (Value.str _ _) (Value.str _ _)) _ _ _); k_dflt (refine' ne_strB ?zzb ?_; (case zzb => with_reducible assumption); k_whole)))
  (k_with "subscriptTail Name UnaryOp ref int!" => (k_here; (with_reducible show wpAny _ _ (subscriptTail _ _ (Value.ref _) (Value.int (-1) _)) _ _ _); k_dflt (refine' item_last ?zzzN ?zzzm ?_ ?zzzs; (case zzzN => k_asm); (case zzzm => k_mem); (case zzzs => with_unfolding_all rfl))))
  (k_with "subscriptTail Subscript UnaryOp ref int!" => (k_here; (with_reducible show wpAny _ _ (subscriptTail _ _ (Value.ref _) (Value.int (-1) _)) _ _ _); k_dflt (refine' item_last ?zzzN ?zzzm ?_ ?zzzs; (case zzzN => k_asm); (case zzzm => k_mem); (case zzzs => with_unfolding_all rfl))))
  (k_with "compareOp In str ref!" => (k_here; (with_reducible show wpAny _ _ (compareOp CmpOp.In (Value.str _ _) (Value.ref _)) _ _ _); k_dflt (refine' in_two ?zzzN ?zzzm ?zzzb ?_; (case zzzN => k_asm); (case zzzm => k_mem); (case zzzb => assumption))))
  trivial
open PySem PySem.W PyProof.Rows PySem.Spec PySem.Calls PyProof.V PyProof.Rows.LCg PyProof.Rows.LCt
set_option maxRecDepth 100000
set_option maxHeartbeats 1000000
/-- no two entries share an address -/
noncomputable def Ap (l : List (Addr × Obj)) : Prop := l.Pairwise fun p q => p.1 ≠ q.1
theorem Ap.cons {d : Addr} {o : Obj} {l : List (Addr × Obj)} (h : Ap l) (k : AllLt d l) : Ap ((d, o) :: l) := List.pairwise_cons.mpr ⟨fun p hp => Nat.ne_of_gt (ltOf k p hp), h⟩
theorem Ap.upd {d : Addr} {o o' : Obj} {l : List (Addr × Obj)} (h : Ap ((d, o) :: l)) : Ap ((d, o') :: l) := List.pairwise_cons.mpr (List.pairwise_cons.mp h)
theorem Ap.head {d : Addr} {o : Obj} {l : List (Addr × Obj)} (h : Ap ((d, o) :: l)) : ∀ p ∈ l, p.1 ≠ d := fun p hp e => (List.pairwise_cons.mp h).1 p hp e.symm
theorem Ap.perm {l l' : List (Addr × Obj)} (h : Ap l) (p : l.Perm l') : Ap l' := p.pairwise h fun q => Ne.symm q
theorem pushL {vs : List Value} {v : Value} {n : Nat} : W.listOf (vs.toArray.push v) n = W.listOf (vs ++ [v]).toArray n := by rw [List.push_toArray]
noncomputable abbrev tupO (vs : Array Value) (c : Nat) : Obj := { cls := .type "tuple", data := .seq vs c }
section
variable {prog : Program} {w : World} {A : Around} {E : Value → Shared → Prop} {s : Shared} {h₀ : Heap} {L l : Addr} {news : List (Addr × Obj)} {vs : List Value} {v : Value} {c : Nat} {u : Tok} {Q : Value → Shared → Prop}
theorem item_last {value slice : PySem.Expr} (N : News h₀ L s.heap news) (hm : (l, W.listOf (vs ++ [v]).toArray c) ∈ news) (h : Q v s)
    (hs : subscripted slice false (.ref l) (.int (-1) u) = operate [.ref l, .int (-1) u] (getItem (.ref l) (.int (-1) u)) := by with_unfolding_all rfl) :
    wpAny (model prog w) A (subscriptTail value slice (.ref l) (.int (-1) u)) Q E s :=
  tail_any (News.isList N hm).typeIs slot_list_getitem.lookup (wpAny_getItem_list_neg (News.isList N hm) (by decide) (by rw [List.size_toArray, List.length_append, List.length_singleton]; omega) (by decide) (by
    rw [List.getElem?_toArray, List.size_toArray, List.length_append, List.length_singleton, show ((-1 : Int) + ((vs.length + 1 : Nat) : Int)).toNat = vs.length by omega]; simp) h) hs
theorem in_two {x y k : Str} {t1 t2 tk : Tok} {c : Nat} {b : Bool} (N : News h₀ L s.heap news) (hm : (l, tupO #[.str x t1, .str y t2] c) ∈ news) (hb : ([x, y].any fun z => z == k) = b) (h : Q (.bool b) s) :
    wpAny (model prog w) A (compareOp .In (.str k tk) (.ref l)) Q E s := by
  subst hb
  have ht : IsTup s.heap l #[.str x t1, .str y t2] := ⟨_, (N _ hm).1, rfl, _, rfl⟩
  exact in_tuple_strs ht (ys := [x, y]) (.cons _ _ (.cons _ _ .nil)) h
end
section
variable {w : World} {mean : ExcName → Option Value} {mg mb : Str → Option Value} {dp un : Nat} {gd : Option (List Code)} {cn : Str} {cs : Scope} {a : Addr} {ccd : Value} {cl : List (Str × Addr)} {outer : List Env} {A₀ : Around} {base h₀ : Heap} {L : Addr} {m : Str → Option Value} {s : Shared} {Q E : Value → Shared → Prop}
  {r : List (Addr × Obj)} {kd st : Str} {tk ts : Tok} {wv hv : Value} {D R t al at_ pa pr it : Addr} {vs xs ys : List Value} {c c1 c2 c3 c4 n : Nat}
theorem pt1_c (C : Cx w mean mg mb dp un cs A₀ base outer h₀ 6) (F : Fr h₀ L s.heap m) (N : News h₀ L s.heap ((D, W.listOf vs.toArray c) :: r)) (hap : Ap ((D, W.listOf vs.toArray c) :: r)) (hz : vs.length < 900) (hw : handedIn wv = true)
  (ret : ∀ h' tk' t' it', Fr h₀ L h' m → News h₀ L h' ((t', tupO #[wv, Value.ref it'] 0) :: (it', W.listOf (List.toArray []) 0) :: (D, W.listOf (vs ++ [Value.ref t']).toArray (c + 1)) :: r) → Ap ((t', tupO #[wv, Value.ref it'] 0) :: (it', W.listOf (List.toArray []) 0) :: (D, W.listOf (vs ++ [Value.ref t']).toArray (c + 1)) :: r) → Q .none { s with heap := h', toks := tk' }) :
  wpAny (model PG w) (ktrTop dp un gd cn cs L a ccd cl outer) (call (.ref 269) [.str st ts, .str (S "KIND") tk, wv, .ref D, .ref R]) Q E s := by
  obtain ⟨B, X, T, hk, hd, hu⟩ := C
  have hMk := kstMark
  have hne := hap.head
  refine wpAny_call ?_
  k_dflt ktr_enter
  (repeat' (first | (k_unfold; (try dsimp only)) | (k_end; kc_close) | (walk1) | (dsimp only; walk1) | (leave1; walk_say "STEP leave1"; (try dsimp only)) | fail "no step"))
  rename_i kF kN kT kX
  (try rw [pushL] at kN)
  exact ret _ _ _ _ kF kN (((hap.upd).cons (by assumption)).cons (by assumption))
theorem pt2_c (C : Cx w mean mg mb dp un cs A₀ base outer h₀ 6) (F : Fr h₀ L s.heap m) (N : News h₀ L s.heap ((it, W.listOf xs.toArray c) :: r)) (hap : Ap ((it, W.listOf xs.toArray c) :: r)) (hz : xs.length < 900) (hw : handedIn wv = true) (h1 : (D, W.listOf (vs ++ [Value.ref t]).toArray c1) ∈ r) (h2 : (t, tupO #[hv, .ref it] c2) ∈ r) (e0 : (kd == S "KIND") = false) (e1 : (kd == S "MARK") = false) (e2 : ([S "bare", S "words"].any fun z => z == st) = true)
  (ret : ∀ h' tk' g1 o1, Fr h₀ L h' m → News h₀ L h' ((g1, o1) :: (it, W.listOf (xs ++ [wv]).toArray (c + 1)) :: r) → Ap ((g1, o1) :: (it, W.listOf (xs ++ [wv]).toArray (c + 1)) :: r) → Q .none { s with heap := h', toks := tk' }) :
  wpAny (model PG w) (ktrTop dp un gd cn cs L a ccd cl outer) (call (.ref 269) [.str st ts, .str kd tk, wv, .ref D, .ref R]) Q E s := by
  obtain ⟨B, X, T, hk, hd, hu⟩ := C
  have hMk := kstMark
  have hne := hap.head
  refine wpAny_call ?_
  k_dflt ktr_enter
  (repeat' (first | (k_unfold; (try dsimp only)) | (k_end; kc_close) | (walk1) | (dsimp only; walk1) | (leave1; walk_say "STEP leave1"; (try dsimp only)) | fail "no step"))
  rename_i kF kN kT kX
  (try rw [pushL] at kN)
  exact ret _ _ _ _ kF kN ((hap.upd).cons (by assumption))
theorem pt3_c (C : Cx w mean mg mb dp un cs A₀ base outer h₀ 6) (F : Fr h₀ L s.heap m) (N : News h₀ L s.heap ((R, W.listOf vs.toArray c) :: r)) (hap : Ap ((R, W.listOf vs.toArray c) :: r)) (hz : vs.length < 900) (hw : handedIn wv = true) (e2 : ([S "bare", S "words"].any fun z => z == st) = false)
  (ret : ∀ h' tk' t' al' at' pr' pa' g1 o1, Fr h₀ L h' m → News h₀ L h' ((t', tupO #[wv, Value.ref al'] 0) :: (al', W.listOf (List.toArray [Value.ref at']) 0) :: (at', tupO #[Value.ref pa', Value.ref pr'] 0) :: (pr', W.listOf (List.toArray []) 0) :: (pa', W.listOf (List.toArray []) 0) :: (g1, o1) :: (R, W.listOf (vs ++ [Value.ref t']).toArray (c + 1)) :: r) → Ap ((t', tupO #[wv, Value.ref al'] 0) :: (al', W.listOf (List.toArray [Value.ref at']) 0) :: (at', tupO #[Value.ref pa', Value.ref pr'] 0) :: (pr', W.listOf (List.toArray []) 0) :: (pa', W.listOf (List.toArray []) 0) :: (g1, o1) :: (R, W.listOf (vs ++ [Value.ref t']).toArray (c + 1)) :: r) → Q .none { s with heap := h', toks := tk' }) :
  wpAny (model PG w) (ktrTop dp un gd cn cs L a ccd cl outer) (call (.ref 269) [.str st ts, .str (S "HEAD") tk, wv, .ref D, .ref R]) Q E s := by
  obtain ⟨B, X, T, hk, hd, hu⟩ := C
  have hMk := kstMark
  have hne := hap.head
  refine wpAny_call ?_
  k_dflt ktr_enter
  (repeat' (first | (k_unfold; (try dsimp only)) | (k_end; kc_close) | (walk1) | (dsimp only; walk1) | (leave1; walk_say "STEP leave1"; (try dsimp only)) | fail "no step"))
  rename_i kF kN kT kX
  (try rw [pushL] at kN)
  exact ret _ _ _ _ _ _ _ _ _ kF kN (((((((hap.upd).cons (by assumption)).cons (by assumption)).cons (by assumption)).cons (by assumption)).cons (by assumption)).cons (by assumption))
theorem pt4_c (C : Cx w mean mg mb dp un cs A₀ base outer h₀ 6) (F : Fr h₀ L s.heap m) (N : News h₀ L s.heap ((al, W.listOf xs.toArray c) :: r)) (hap : Ap ((al, W.listOf xs.toArray c) :: r)) (hz : xs.length < 900) (hw : handedIn wv = true) (h1 : (R, W.listOf (vs ++ [Value.ref t]).toArray c1) ∈ r) (h2 : (t, tupO #[hv, .ref al] c2) ∈ r) (e0 : ([S "bare", S "words"].any fun z => z == st) = false)
  (ret : ∀ h' tk' at' pr' pa' g1 o1, Fr h₀ L h' m → News h₀ L h' ((at', tupO #[Value.ref pa', Value.ref pr'] 0) :: (pr', W.listOf (List.toArray []) 0) :: (pa', W.listOf (List.toArray []) 0) :: (g1, o1) :: (al, W.listOf (xs ++ [Value.ref at']).toArray (c + 1)) :: r) → Ap ((at', tupO #[Value.ref pa', Value.ref pr'] 0) :: (pr', W.listOf (List.toArray []) 0) :: (pa', W.listOf (List.toArray []) 0) :: (g1, o1) :: (al, W.listOf (xs ++ [Value.ref at']).toArray (c + 1)) :: r) → Q .none { s with heap := h', toks := tk' }) :
  wpAny (model PG w) (ktrTop dp un gd cn cs L a ccd cl outer) (call (.ref 269) [.str st ts, .str (S "BAR") tk, wv, .ref D, .ref R]) Q E s := by
  obtain ⟨B, X, T, hk, hd, hu⟩ := C
  have hMk := kstMark
  have hne := hap.head
  refine wpAny_call ?_
  k_dflt ktr_enter
  (repeat' (first | (k_unfold; (try dsimp only)) | (k_end; kc_close) | (walk1) | (dsimp only; walk1) | (leave1; walk_say "STEP leave1"; (try dsimp only)) | fail "no step"))
  rename_i kF kN kT kX
  (try rw [pushL] at kN)
  exact ret _ _ _ _ _ _ _ kF kN (((((hap.upd).cons (by assumption)).cons (by assumption)).cons (by assumption)).cons (by assumption))
theorem pt5_c (C : Cx w mean mg mb dp un cs A₀ base outer h₀ 6) (F : Fr h₀ L s.heap m) (N : News h₀ L s.heap ((pr, W.listOf xs.toArray c) :: r)) (hap : Ap ((pr, W.listOf xs.toArray c) :: r)) (hz : xs.length < 900) (hw : handedIn wv = true) (h1 : (R, W.listOf (vs ++ [Value.ref t]).toArray c1) ∈ r) (h2 : (t, tupO #[hv, .ref al] c2) ∈ r) (h3 : (al, W.listOf (ys ++ [Value.ref at_]).toArray c3) ∈ r) (h4 : (at_, tupO #[.ref pa, .ref pr] c4) ∈ r) (e0 : (kd == S "KIND") = false) (e1 : (kd == S "HEAD") = false) (e2 : (kd == S "BAR") = false) (e3 : ([S "bare", S "words"].any fun z => z == st) = false) (e4 : (st == S "prec") = true)
  (ret : ∀ h' tk' g1 o1, Fr h₀ L h' m → News h₀ L h' ((g1, o1) :: (pr, W.listOf (xs ++ [wv]).toArray (c + 1)) :: r) → Ap ((g1, o1) :: (pr, W.listOf (xs ++ [wv]).toArray (c + 1)) :: r) → Q .none { s with heap := h', toks := tk' }) :
  wpAny (model PG w) (ktrTop dp un gd cn cs L a ccd cl outer) (call (.ref 269) [.str st ts, .str kd tk, wv, .ref D, .ref R]) Q E s := by
  obtain ⟨B, X, T, hk, hd, hu⟩ := C
  have hMk := kstMark
  have hne := hap.head
  refine wpAny_call ?_
  k_dflt ktr_enter
  (repeat' (first | (k_unfold; (try dsimp only)) | (k_end; kc_close) | (walk1) | (dsimp only; walk1) | (leave1; walk_say "STEP leave1"; (try dsimp only)) | fail "no step"))
  rename_i kF kN kT kX
  (try rw [pushL] at kN)
  exact ret _ _ _ _ kF kN ((hap.upd).cons (by assumption))
theorem pt6_c (C : Cx w mean mg mb dp un cs A₀ base outer h₀ 6) (F : Fr h₀ L s.heap m) (N : News h₀ L s.heap ((pa, W.listOf xs.toArray c) :: r)) (hap : Ap ((pa, W.listOf xs.toArray c) :: r)) (hz : xs.length < 900) (hw : handedIn wv = true) (h1 : (R, W.listOf (vs ++ [Value.ref t]).toArray c1) ∈ r) (h2 : (t, tupO #[hv, .ref al] c2) ∈ r) (h3 : (al, W.listOf (ys ++ [Value.ref at_]).toArray c3) ∈ r) (h4 : (at_, tupO #[.ref pa, .ref pr] c4) ∈ r) (e0 : (kd == S "KIND") = false) (e1 : (kd == S "HEAD") = false) (e2 : (kd == S "BAR") = false) (e3 : ([S "bare", S "words"].any fun z => z == st) = false) (e4 : (st == S "prec") = false) (e5 : ([S "NAME", S "LITERAL"].any fun z => z == kd) = true)
  (ret : ∀ h' tk' tp u1 g1 o1 g2 o2, Fr h₀ L h' m → News h₀ L h' ((tp, tupO #[.str (S "sym") u1, wv] 0) :: (g1, o1) :: (g2, o2) :: (pa, W.listOf (xs ++ [Value.ref tp]).toArray (c + 1)) :: r) → Ap ((tp, tupO #[.str (S "sym") u1, wv] 0) :: (g1, o1) :: (g2, o2) :: (pa, W.listOf (xs ++ [Value.ref tp]).toArray (c + 1)) :: r) → Q .none { s with heap := h', toks := tk' }) :
  wpAny (model PG w) (ktrTop dp un gd cn cs L a ccd cl outer) (call (.ref 269) [.str st ts, .str kd tk, wv, .ref D, .ref R]) Q E s := by
  obtain ⟨B, X, T, hk, hd, hu⟩ := C
  have hMk := kstMark
  have hne := hap.head
  refine wpAny_call ?_
  k_dflt ktr_enter
  (repeat' (first | (k_unfold; (try dsimp only)) | (k_end; kc_close) | (walk1) | (dsimp only; walk1) | (leave1; walk_say "STEP leave1"; (try dsimp only)) | fail "no step"))
  rename_i kF kN kT kX
  (try rw [pushL] at kN)
  exact ret _ _ _ _ _ _ _ _ kF kN ((((hap.upd).cons (by assumption)).cons (by assumption)).cons (by assumption))
theorem pt7_c (C : Cx w mean mg mb dp un cs A₀ base outer h₀ 6) (F : Fr h₀ L s.heap m) (N : News h₀ L s.heap ((pa, W.listOf xs.toArray c) :: r)) (hap : Ap ((pa, W.listOf xs.toArray c) :: r)) (hz : xs.length < 900) (hw : handedIn wv = true) (h1 : (R, W.listOf (vs ++ [Value.ref t]).toArray c1) ∈ r) (h2 : (t, tupO #[hv, .ref al] c2) ∈ r) (h3 : (al, W.listOf (ys ++ [Value.ref at_]).toArray c3) ∈ r) (h4 : (at_, tupO #[.ref pa, .ref pr] c4) ∈ r) (e0 : ([S "bare", S "words"].any fun z => z == st) = false) (e1 : (st == S "prec") = false)
  (ret : ∀ h' tk' tp u1 g1 o1 g2 o2, Fr h₀ L h' m → News h₀ L h' ((tp, tupO #[.str (S "act") u1, wv] 0) :: (g1, o1) :: (g2, o2) :: (pa, W.listOf (xs ++ [Value.ref tp]).toArray (c + 1)) :: r) → Ap ((tp, tupO #[.str (S "act") u1, wv] 0) :: (g1, o1) :: (g2, o2) :: (pa, W.listOf (xs ++ [Value.ref tp]).toArray (c + 1)) :: r) → Q .none { s with heap := h', toks := tk' }) :
  wpAny (model PG w) (ktrTop dp un gd cn cs L a ccd cl outer) (call (.ref 269) [.str st ts, .str (S "ACTION") tk, wv, .ref D, .ref R]) Q E s := by
  obtain ⟨B, X, T, hk, hd, hu⟩ := C
  have hMk := kstMark
  have hne := hap.head
  refine wpAny_call ?_
  k_dflt ktr_enter
  (repeat' (first | (k_unfold; (try dsimp only)) | (k_end; kc_close) | (walk1) | (dsimp only; walk1) | (leave1; walk_say "STEP leave1"; (try dsimp only)) | fail "no step"))
  rename_i kF kN kT kX
  (try rw [pushL] at kN)
  exact ret _ _ _ _ _ _ _ _ kF kN ((((hap.upd).cons (by assumption)).cons (by assumption)).cons (by assumption))
theorem pt8_c (C : Cx w mean mg mb dp un cs A₀ base outer h₀ 6) (F : Fr h₀ L s.heap m) (N : News h₀ L s.heap ((pa, W.listOf xs.toArray c) :: r)) (hap : Ap ((pa, W.listOf xs.toArray c) :: r)) (hz : xs.length < 900) (hw : handedIn wv = true) (h1 : (R, W.listOf (vs ++ [Value.ref t]).toArray c1) ∈ r) (h2 : (t, tupO #[hv, .ref al] c2) ∈ r) (h3 : (al, W.listOf (ys ++ [Value.ref at_]).toArray c3) ∈ r) (h4 : (at_, tupO #[.ref pa, .ref pr] c4) ∈ r) (e0 : ([S "bare", S "words"].any fun z => z == st) = false) (e1 : (st == S "prec") = false)
  (ret : ∀ h' tk' tp u1 u2 g1 o1 g2 o2, Fr h₀ L h' m → News h₀ L h' ((tp, tupO #[.str (S "empty") u1, .str (S "") u2] 0) :: (g1, o1) :: (g2, o2) :: (pa, W.listOf (xs ++ [Value.ref tp]).toArray (c + 1)) :: r) → Ap ((tp, tupO #[.str (S "empty") u1, .str (S "") u2] 0) :: (g1, o1) :: (g2, o2) :: (pa, W.listOf (xs ++ [Value.ref tp]).toArray (c + 1)) :: r) → Q .none { s with heap := h', toks := tk' }) :
  wpAny (model PG w) (ktrTop dp un gd cn cs L a ccd cl outer) (call (.ref 269) [.str st ts, .str (S "EMPTY") tk, wv, .ref D, .ref R]) Q E s := by
  obtain ⟨B, X, T, hk, hd, hu⟩ := C
  have hMk := kstMark
  have hne := hap.head
  refine wpAny_call ?_
  k_dflt ktr_enter
  (repeat' (first | (k_unfold; (try dsimp only)) | (k_end; kc_close) | (walk1) | (dsimp only; walk1) | (leave1; walk_say "STEP leave1"; (try dsimp only)) | fail "no step"))
  rename_i kF kN kT kX
  (try rw [pushL] at kN)
  exact ret _ _ _ _ _ _ _ _ _ kF kN ((((hap.upd).cons (by assumption)).cons (by assumption)).cons (by assumption))
theorem pt9_c (C : Cx w mean mg mb dp un cs A₀ base outer h₀ 6) (F : Fr h₀ L s.heap m) (N : News h₀ L s.heap ((D, W.listOf vs.toArray c) :: r)) (hap : Ap ((D, W.listOf vs.toArray c) :: r)) (hz : vs.length < 900) (hw : handedIn wv = true) (e0 : (kd == S "KIND") = false) (e1 : (kd == S "HEAD") = false) (e2 : (kd == S "BAR") = false) (e3 : (st == S "prec") = false) (e4 : (kd == S "ACTION") = false) (e5 : (kd == S "EMPTY") = false) (e6 : ([S "NAME", S "LITERAL"].any fun z => z == kd) = false) (e9 : ([S "bare", S "words"].any fun z => z == st) = false)
  (ret : ∀ h' tk' g1 o1 g2 o2, Fr h₀ L h' m → News h₀ L h' ((g1, o1) :: (g2, o2) :: (D, W.listOf vs.toArray c) :: r) → Ap ((g1, o1) :: (g2, o2) :: (D, W.listOf vs.toArray c) :: r) → Q .none { s with heap := h', toks := tk' }) :
  wpAny (model PG w) (ktrTop dp un gd cn cs L a ccd cl outer) (call (.ref 269) [.str st ts, .str kd tk, wv, .ref D, .ref R]) Q E s := by
  obtain ⟨B, X, T, hk, hd, hu⟩ := C
  have hMk := kstMark
  have hne := hap.head
  refine wpAny_call ?_
  k_dflt ktr_enter
  (repeat' (first | (k_unfold; (try dsimp only)) | (k_end; kc_close) | (walk1) | (dsimp only; walk1) | (leave1; walk_say "STEP leave1"; (try dsimp only)) | fail "no step"))
  rename_i kF kN kT kX
  (try rw [pushL] at kN)
  exact ret _ _ _ _ _ _ kF kN (((hap).cons (by assumption)).cons (by assumption))
theorem pt0_c (C : Cx w mean mg mb dp un cs A₀ base outer h₀ 6) (F : Fr h₀ L s.heap m) (N : News h₀ L s.heap ((D, W.listOf vs.toArray c) :: r)) (hap : Ap ((D, W.listOf vs.toArray c) :: r)) (hz : vs.length < 900) (hw : handedIn wv = true) (e0 : (st == S "prec") = false) (e9 : ([S "bare", S "words"].any fun z => z == st) = true)
  (ret : ∀ h' tk' g1 o1 g2 o2, Fr h₀ L h' m → News h₀ L h' ((g1, o1) :: (g2, o2) :: (D, W.listOf vs.toArray c) :: r) → Ap ((g1, o1) :: (g2, o2) :: (D, W.listOf vs.toArray c) :: r) → Q .none { s with heap := h', toks := tk' }) :
  wpAny (model PG w) (ktrTop dp un gd cn cs L a ccd cl outer) (call (.ref 269) [.str st ts, .str (S "MARK") tk, wv, .ref D, .ref R]) Q E s := by
  obtain ⟨B, X, T, hk, hd, hu⟩ := C
  have hMk := kstMark
  have hne := hap.head
  refine wpAny_call ?_
  k_dflt ktr_enter
  (repeat' (first | (k_unfold; (try dsimp only)) | (k_end; kc_close) | (walk1) | (dsimp only; walk1) | (leave1; walk_say "STEP leave1"; (try dsimp only)) | fail "no step"))
  rename_i kF kN kT kX
  (try rw [pushL] at kN)
  exact ret _ _ _ _ _ _ kF kN (((hap).cons (by assumption)).cons (by assumption))
end
end

section
theorem start_Pi : True := by
  w_top off
  k_with_none
  (k_with "k_room!" => (((try simp only [depth_under_make, depth_under_kw, depth_in1, depth_deeper, depth_caller]); (try dsimp only [ktrTop]); omega)))
  (k_with "ktr_room!" => (((try simp only [depth_under_make, depth_under_kw, depth_in1, depth_deeper, depth_caller]); (try dsimp only [ktrTop]); omega)))
  (k_with "ktr_units!" => (((try simp only [units_in1, units_deeper, Around.mark_units, units_caller]); (try dsimp only [ktrTop]); omega)))
  (k_with "ktr_rel!" => (first | k_asm | exact rot1 (by k_asm) | exact rot2 (by k_asm) | exact rot3 (by k_asm)))
  (k_with "tb_rel!" => (first | k_asm | exact fun _ h => h | (intro p hp; k_mem)))
  (k_with "size_fits!" => (((try simp only [List.size_toArray, List.length_append, List.length_cons, List.length_nil, PySem.sizeLine_eq]); omega)))
  trivial
open PySem PySem.W PyProof.Rows PySem.Spec
set_option maxRecDepth 100000
section
variable {α : Type} {ex m1 m2 f r : List α} {a b c d e g h x y z : α}
theorem pm_D : (ex ++ a :: b :: (m1 ++ m2 ++ f)).Perm (a :: (ex ++ b :: (m1 ++ m2 ++ f))) := by ((classical exact List.perm_iff_count.mpr fun x => by simp only [List.count_append, List.count_cons, List.count_nil, List.cons_append, List.nil_append]; omega))
theorem pm_R : (ex ++ a :: b :: (m1 ++ m2 ++ f)).Perm (b :: (ex ++ a :: (m1 ++ m2 ++ f))) := by ((classical exact List.perm_iff_count.mpr fun x => by simp only [List.count_append, List.count_cons, List.count_nil, List.cons_append, List.nil_append]; omega))
theorem pm_i : (ex ++ a :: b :: ([c] ++ m2 ++ f)).Perm (c :: (ex ++ a :: b :: (m2 ++ f))) := by ((classical exact List.perm_iff_count.mpr fun x => by simp only [List.count_append, List.count_cons, List.count_nil, List.cons_append, List.nil_append]; omega))
theorem pm_1 : (ex ++ a :: b :: (m1 ++ [c, d, e] ++ f)).Perm (c :: (ex ++ a :: b :: (m1 ++ [d, e] ++ f))) := by ((classical exact List.perm_iff_count.mpr fun x => by simp only [List.count_append, List.count_cons, List.count_nil, List.cons_append, List.nil_append]; omega))
theorem pm_2 : (ex ++ a :: b :: (m1 ++ [c, d, e] ++ f)).Perm (d :: (ex ++ a :: b :: (m1 ++ [c, e] ++ f))) := by ((classical exact List.perm_iff_count.mpr fun x => by simp only [List.count_append, List.count_cons, List.count_nil, List.cons_append, List.nil_append]; omega))
theorem pm_3 : (ex ++ a :: b :: (m1 ++ [c, d, e] ++ f)).Perm (e :: (ex ++ a :: b :: (m1 ++ [c, d] ++ f))) := by ((classical exact List.perm_iff_count.mpr fun x => by simp only [List.count_append, List.count_cons, List.count_nil, List.cons_append, List.nil_append]; omega))
theorem pk1 : (x :: y :: a :: (ex ++ b :: (m1 ++ m2 ++ f))).Perm (ex ++ a :: b :: ([y] ++ m2 ++ (x :: (m1 ++ f)))) := by ((classical exact List.perm_iff_count.mpr fun x => by simp only [List.count_append, List.count_cons, List.count_nil, List.cons_append, List.nil_append]; omega))
theorem pk2 : (x :: c :: (ex ++ a :: b :: (m2 ++ f))).Perm (ex ++ a :: b :: ([c] ++ m2 ++ (x :: f))) := by ((classical exact List.perm_iff_count.mpr fun x => by simp only [List.count_append, List.count_cons, List.count_nil, List.cons_append, List.nil_append]; omega))
theorem pk3 : (x :: c :: y :: e :: d :: z :: b :: (ex ++ a :: (m1 ++ m2 ++ f))).Perm (ex ++ a :: b :: (m1 ++ [c, d, e] ++ (x :: y :: z :: (m2 ++ f)))) := by ((classical exact List.perm_iff_count.mpr fun x => by simp only [List.count_append, List.count_cons, List.count_nil, List.cons_append, List.nil_append]; omega))
theorem pk4 : (x :: h :: g :: y :: c :: (ex ++ a :: b :: (m1 ++ [d, e] ++ f))).Perm (ex ++ a :: b :: (m1 ++ [c, g, h] ++ (x :: y :: d :: e :: f))) := by ((classical exact List.perm_iff_count.mpr fun x => by simp only [List.count_append, List.count_cons, List.count_nil, List.cons_append, List.nil_append]; omega))
theorem pk5 : (x :: e :: (ex ++ a :: b :: (m1 ++ [c, d] ++ f))).Perm (ex ++ a :: b :: (m1 ++ [c, d, e] ++ (x :: f))) := by ((classical exact List.perm_iff_count.mpr fun x => by simp only [List.count_append, List.count_cons, List.count_nil, List.cons_append, List.nil_append]; omega))
theorem pk6 : (x :: y :: z :: d :: (ex ++ a :: b :: (m1 ++ [c, e] ++ f))).Perm (ex ++ a :: b :: (m1 ++ [c, d, e] ++ (x :: y :: z :: f))) := by ((classical exact List.perm_iff_count.mpr fun x => by simp only [List.count_append, List.count_cons, List.count_nil, List.cons_append, List.nil_append]; omega))
theorem pk9 : (x :: y :: a :: (ex ++ b :: (m1 ++ m2 ++ f))).Perm (ex ++ a :: b :: (m1 ++ m2 ++ (x :: y :: f))) := by ((classical exact List.perm_iff_count.mpr fun x => by simp only [List.count_append, List.count_cons, List.count_nil, List.cons_append, List.nil_append]; omega))
end
noncomputable def altLD (a : AltD) : Dat := .tuple [.list a.1, .list a.2]
noncomputable def ruleLD (r : RuleD) : Dat := .tuple [r.1, .list (r.2.map altLD)]
/-- how the gathered declarations lie: the open one's items in mu, the rest frozen in fr -/
inductive DLedS (n : Nat) (fr : List (Addr × Obj)) (ds : List DeclD) (d : DeclD) (mu : List (Addr × Obj)) (vs : List Value) : Prop
  | mk (it : Addr) (c : Nat) (xs : List Value) (t : Addr) (c2 : Nat) (wv : Value) (vs0 : List Value) (h1 : mu = [(it, W.listOf (List.toArray xs) c)]) (h2 : vs = vs0 ++ [Value.ref t]) (h3 : xs.length ≤ n) (h4 : (t, tupO #[wv, .ref it] c2) ∈ fr) (h5 : DatAll fr vs0 (ds.map declD)) (h6 : DatIn fr wv d.1) (h7 : DatAll fr xs d.2) : DLedS n fr ds d mu vs
noncomputable def DLed (n : Nat) (fr : List (Addr × Obj)) (ds : List DeclD) : Option DeclD → List (Addr × Obj) → List Value → Prop
  | none, mu, vs => mu = [] ∧ DatAll fr vs (ds.map declD)
  | some d, mu, vs => DLedS n fr ds d mu vs
inductive RLedS (n : Nat) (fr : List (Addr × Obj)) (rs : List RuleD) (d : RuleD × AltD) (mu : List (Addr × Obj)) (vs : List Value) : Prop
  | mk (al pa pr t at_ : Addr) (c1 c2 c3 c4 c5 : Nat) (hv : Value) (vs0 va xs ys : List Value) (h1 : mu = [(al, W.listOf (List.toArray (va ++ [Value.ref at_])) c1), (pa, W.listOf (List.toArray xs) c2), (pr, W.listOf (List.toArray ys) c3)]) (h2 : vs = vs0 ++ [Value.ref t])
      (h3 : va.length + 1 ≤ n ∧ xs.length ≤ n ∧ ys.length ≤ n) (h4 : (t, tupO #[hv, .ref al] c4) ∈ fr) (h5 : (at_, tupO #[.ref pa, .ref pr] c5) ∈ fr) (h6 : DatAll fr vs0 (rs.map ruleLD)) (h7 : DatIn fr hv d.1.1) (h8 : DatAll fr va (d.1.2.map altLD)) (h9 : DatAll fr xs d.2.1) (h10 : DatAll fr ys d.2.2) : RLedS n fr rs d mu vs
noncomputable def RLed (n : Nat) (fr : List (Addr × Obj)) (rs : List RuleD) : Option (RuleD × AltD) → List (Addr × Obj) → List Value → Prop
  | none, mu, vs => mu = [] ∧ DatAll fr vs (rs.map ruleLD)
  | some d, mu, vs => RLedS n fr rs d mu vs
/-- how all that is gathered lies in the ledger -/
inductive Led (ex fz : List (Addr × Obj)) (D R : Addr) (n : Nat) (a : Acc) (n' : List (Addr × Obj)) : Prop
  | mk (vD : List Value) (cD : Nat) (vR : List Value) (cR : Nat) (muD muR fr : List (Addr × Obj)) (hp : n'.Perm (ex ++ (D, W.listOf (List.toArray vD) cD) :: (R, W.listOf (List.toArray vR) cR) :: (muD ++ muR ++ fr))) (hap : Ap n') (hs : ∀ p ∈ fz, p ∈ fr) (hl : vD.length ≤ n ∧ vR.length ≤ n) (hD : DLed n fr a.ds a.cd muD vD) (hR : RLed n fr a.rs a.cr muR vR) : Led ex fz D R n a n'
theorem DLed.mono {n n2 : Nat} {fr fr' : List (Addr × Obj)} {ds : List DeclD} {cd : Option DeclD} {mu : List (Addr × Obj)} {vs : List Value} (h : DLed n fr ds cd mu vs) (hn : n ≤ n2) (s : ∀ p ∈ fr, p ∈ fr') : DLed n2 fr' ds cd mu vs := by
  cases cd with
  | none => exact ⟨h.1, h.2.mono s⟩
  | some d =>
    obtain ⟨it, c, xs, t, c2, wv, vs0, h1, h2, h3, h4, h5, h6, h7⟩ := h
    exact ⟨it, c, xs, t, c2, wv, vs0, h1, h2, Nat.le_trans h3 hn, s _ h4, h5.mono s, h6.mono s, h7.mono s⟩
theorem RLed.mono {n n2 : Nat} {fr fr' : List (Addr × Obj)} {rs : List RuleD} {cr : Option (RuleD × AltD)} {mu : List (Addr × Obj)} {vs : List Value} (h : RLed n fr rs cr mu vs) (hn : n ≤ n2) (s : ∀ p ∈ fr, p ∈ fr') : RLed n2 fr' rs cr mu vs := by
  cases cr with
  | none => exact ⟨h.1, h.2.mono s⟩
  | some d =>
    obtain ⟨al, pa, pr, t, at_, c1, c2, c3, c4, c5, hv, vs0, va, xs, ys, h1, h2, h3, h4, h5, h6, h7, h8, h9, h10⟩ := h
    exact ⟨al, pa, pr, t, at_, c1, c2, c3, c4, c5, hv, vs0, va, xs, ys, h1, h2, ⟨Nat.le_trans h3.1 hn, Nat.le_trans h3.2.1 hn, Nat.le_trans h3.2.2 hn⟩, s _ h4, s _ h5, h6.mono s, h7.mono s, h8.mono s, h9.mono s, h10.mono s⟩
/-- closed, all are data -/
theorem DLed.all {n : Nat} {fr : List (Addr × Obj)} {a : Acc} {mu : List (Addr × Obj)} {vs : List Value} (h : DLed n fr a.ds a.cd mu vs) : DatAll (mu ++ fr) vs (a.dsAll.map declD) := by
  obtain ⟨ds, cd, rs, cr⟩ := a
  unfold Acc.dsAll
  cases cd with
  | none =>
    obtain ⟨rfl, h2⟩ := h
    simpa using h2
  | some d =>
    obtain ⟨it, c, xs, t, c2, wv, vs0, rfl, rfl, h3, h4, h5, h6, h7⟩ := h
    have s : ∀ p ∈ fr, p ∈ [(it, W.listOf (List.toArray xs) c)] ++ fr := fun p hp => .tail _ hp
    rw [Option.toList_some, List.map_append, List.map_singleton]
    exact (h5.mono s).append (.one (DatIn.tuple (vs := [_, _]) (s _ h4) (.cons (h6.mono s) (.cons (DatIn.list (.head _) (h7.mono s)) .nil))))
theorem RLed.alt {n : Nat} {fr : List (Addr × Obj)} {pa pr at_ : Addr} {c2 c3 c5 : Nat} {xs ys : List Value} {al : AltD} (h2 : (pa, W.listOf (List.toArray xs) c2) ∈ fr) (h3 : (pr, W.listOf (List.toArray ys) c3) ∈ fr) (h5 : (at_, tupO #[.ref pa, .ref pr] c5) ∈ fr) (h9 : DatAll fr xs al.1) (h10 : DatAll fr ys al.2) : DatIn fr (.ref at_) (altLD al) :=
  DatIn.tuple (vs := [_, _]) h5 (.cons (DatIn.list h2 h9) (.cons (DatIn.list h3 h10) .nil))
theorem RLed.all {n : Nat} {fr : List (Addr × Obj)} {a : Acc} {mu : List (Addr × Obj)} {vs : List Value} (h : RLed n fr a.rs a.cr mu vs) : DatAll (mu ++ fr) vs (a.rsAll.map ruleLD) := by
  obtain ⟨ds, cd, rs, cr⟩ := a
  unfold Acc.rsAll
  cases cr with
  | none =>
    obtain ⟨rfl, h2⟩ := h
    simpa using h2
  | some d =>
    obtain ⟨al, pa, pr, t, at_, c1, c2, c3, c4, c5, hv, vs0, va, xs, ys, rfl, rfl, h3, h4, h5, h6, h7, h8, h9, h10⟩ := h
    generalize hm : [(al, W.listOf (List.toArray (va ++ [Value.ref at_])) c1), (pa, W.listOf (List.toArray xs) c2), (pr, W.listOf (List.toArray ys) c3)] = mu
    have s : ∀ p ∈ fr, p ∈ mu ++ fr := fun p hp => List.mem_append_right _ hp
    have m1 : (al, W.listOf (List.toArray (va ++ [Value.ref at_])) c1) ∈ mu ++ fr := by subst hm; exact .head _
    have m2 : (pa, W.listOf (List.toArray xs) c2) ∈ mu ++ fr := by subst hm; exact .tail _ (.head _)
    have m3 : (pr, W.listOf (List.toArray ys) c3) ∈ mu ++ fr := by subst hm; exact .tail _ (.tail _ (.head _))
    rw [Option.map_some, Option.toList_some, List.map_append, List.map_singleton]
    refine (h6.mono s).append (.one (DatIn.tuple (vs := [_, _]) (s _ h4) (.cons (h7.mono s) (.cons ?_ .nil))))
    refine DatIn.list m1 ?_
    rw [List.map_append, List.map_singleton]
    exact (h8.mono s).append (.one (RLed.alt (n := n) m2 m3 (s _ h5) (h9.mono s) (h10.mono s)))
end

section
theorem start_Ps : True := by
  w_top off
  k_with_none
  (k_with "k_room!" => (((try simp only [depth_under_make, depth_under_kw, depth_in1, depth_deeper, depth_caller]); (try dsimp only [ktrTop]); omega)))
  (k_with "ktr_room!" => (((try simp only [depth_under_make, depth_under_kw, depth_in1, depth_deeper, depth_caller]); (try dsimp only [ktrTop]); omega)))
  (k_with "ktr_units!" => (((try simp only [units_in1, units_deeper, Around.mark_units, units_caller]); (try dsimp only [ktrTop]); omega)))
  (k_with "ktr_rel!" => (first | k_asm | exact rot1 (by k_asm) | exact rot2 (by k_asm) | exact rot3 (by k_asm)))
  (k_with "tb_rel!" => (first | k_asm | exact fun _ h => h | (intro p hp; k_mem)))
  (k_with "size_fits!" => (((try simp only [List.size_toArray, List.length_append, List.length_cons, List.length_nil, PySem.sizeLine_eq]); omega)))
  trivial
open PySem PySem.W PyProof.Rows PySem.Spec
set_option maxRecDepth 100000
structure Fit (st : Str) (a : Acc) : Prop where
  d : st = S "bare" ∨ st = S "words" → a.cd.isSome = true
  r : st ≠ S "begin" → st ≠ S "bare" → st ≠ S "words" → st ≠ S "first" → a.cr.isSome = true
theorem any_two {x y k : Str} : ([x, y].any fun z => z == k) = decide (k = x ∨ k = y) := by
  by_cases h : k = x ∨ k = y
  · rw [decide_eq_true h]; rcases h with rfl | rfl <;> simp
  · rw [decide_eq_false h]
    have h1 : ¬ k = x := fun e => h (.inl e)
    have h2 : ¬ k = y := fun e => h (.inr e)
    simp [Ne.symm h1, Ne.symm h2]
theorem atS_mem {α : Type} {y : α} {k : Str} : ∀ {es : List (Str × α)}, atS es k = some y → (k, y) ∈ es
  | (a, z) :: r, h => by
    rw [atS_cons] at h
    split at h
    · rename_i e; cases h; subst e; exact .head _
    · exact .tail _ (atS_mem h)
theorem next_far {st kd st' : Str} (h : nextS st kd = some st') (h1 : st ≠ S "begin") (h2 : st ≠ S "bare") (h3 : st ≠ S "words") : st' ≠ S "bare" ∧ st' ≠ S "words" := by
  unfold nextS getS at h
  cases e : atS waysT st with
  | none => rw [e] at h; cases h
  | some es =>
    rw [e] at h
    have k : ∀ p ∈ waysT, p.1 ≠ S "begin" → p.1 ≠ S "bare" → p.1 ≠ S "words" → ∀ q ∈ p.2, q.2 ≠ S "bare" ∧ q.2 ≠ S "words" := by decide +kernel
    exact k _ (atS_mem e) h1 h2 h3 _ (atS_mem h)
theorem parted_cr {st kd : Str} {d : Dat} {a : Acc} (h : a.cr.isSome = true) : (parted st kd d a).cr.isSome = true := by
  unfold parted addPart
  repeat' split
  all_goals first | exact h | (simp only [Option.isSome_map]; exact h) | rfl
theorem Fit.next {st kd st' : Str} {d : Dat} {a : Acc} (hf : Fit st a) (h : nextS st kd = some st') : Fit st' (parted st kd d a) := by
  by_cases c1 : st = S "begin"
  · subst c1
    rw [nx_begin] at h
    split at h
    · rename_i e; subst e; cases h; rw [pt_kind]; exact ⟨fun _ => rfl, fun _ h2 => absurd rfl h2⟩
    · split at h
      · cases h; exact ⟨fun q => absurd q (by decide), fun _ _ _ h2 => absurd rfl h2⟩
      · cases h
  by_cases c2 : st = S "bare"
  · subst c2
    rw [nx_bare] at h
    split at h
    · rename_i e; cases h; rw [pt_sym (.inl rfl) e]
      exact ⟨fun _ => by show (Option.map _ a.cd).isSome = true; rw [Option.isSome_map]; exact hf.d (.inl rfl), fun _ _ h2 => absurd rfl h2⟩
    · cases h
  by_cases c3 : st = S "words"
  · subst c3
    rw [nx_words] at h
    split at h
    · rename_i e; subst e; cases h; rw [pt_kind]; exact ⟨fun _ => rfl, fun _ h2 => absurd rfl h2⟩
    · split at h
      · cases h; exact ⟨fun q => absurd q (by decide), fun _ _ _ h2 => absurd rfl h2⟩
      · split at h
        · rename_i e; cases h; rw [pt_sym (.inr rfl) e]
          exact ⟨fun _ => by show (Option.map _ a.cd).isSome = true; rw [Option.isSome_map]; exact hf.d (.inr rfl), fun _ _ h2 => absurd rfl h2⟩
        · cases h
  have far := next_far h c1 c2 c3
  by_cases c4 : st = S "first"
  · subst c4
    rw [nx_first] at h
    split at h
    · rename_i e; subst e; cases h; rw [pt_head plain_first]; exact ⟨fun q => absurd q (by decide), fun _ _ _ _ => rfl⟩
    · cases h
  exact ⟨fun q => q.elim (fun e => absurd e far.1) fun e => absurd e far.2, fun _ _ _ _ => parted_cr (hf.r c1 c2 c3 c4)⟩
section
variable {w : World} {mean : ExcName → Option Value} {mg mb : Str → Option Value} {dp un : Nat} {gd : Option (List Code)} {cn : Str} {cs : Scope} {a₀ : Addr} {ccd : Value} {cl : List (Str × Addr)} {outer : List Env} {A₀ : Around} {base h₀ : Heap} {L : Addr} {m : Str → Option Value} {s : Shared} {Q E : Value → Shared → Prop}
  {ex fz n' : List (Addr × Obj)} {kd st st' : Str} {tk ts : Tok} {wv : Value} {d : Dat} {D R : Addr} {a : Acc} {n : Nat}
theorem News.perm {h : Heap} {l l' : List (Addr × Obj)} (N : News h₀ L h l) (p : l.Perm l') : News h₀ L h l' := fun q hq => N q (p.mem_iff.mpr hq)
theorem app1 {p : Addr × Obj} {a b : Addr × Obj} {l r : List (Addr × Obj)} (h : p ∈ r) : p ∈ ex ++ a :: b :: (l ++ r) := List.mem_append_right _ (.tail _ (.tail _ (List.mem_append_right _ h)))
theorem parted_s (C : Cx w mean mg mb dp un cs A₀ base outer h₀ 6) (F : Fr h₀ L s.heap m) (N : News h₀ L s.heap n') (hI : Led ex fz D R n a n') (hn : n < 900) (hw : DatIn fz wv d) (hx : nextS st kd = some st') (hf : Fit st a)
  (ret : ∀ h' tk' n'', Fr h₀ L h' m → News h₀ L h' n'' → Led ex fz D R (n + 1) (parted st kd d a) n'' → Q .none { s with heap := h', toks := tk' }) :
  wpAny (model PG w) (ktrTop dp un gd cn cs L a₀ ccd cl outer) (call (.ref 269) [.str st ts, .str kd tk, wv, .ref D, .ref R]) Q E s := by
  obtain ⟨vD, cD, vR, cR, muD, muR, fr, hp, hap, hs, ⟨l1, l2⟩, hD, hR⟩ := hI
  have hh := hw.handed
  have nn : n ≤ n + 1 := Nat.le_succ n
  by_cases hK : kd = S "KIND"
  · subst hK
    refine pt1_c C F (News.perm N (hp.trans pm_D)) (hap.perm (hp.trans pm_D)) (Nat.lt_of_le_of_lt l1 hn) hh fun h' tk' t' it' F' N' A' => ret h' tk' _ F' N' ?_
    rw [pt_kind]
    have s1 : ∀ p ∈ muD ++ fr, p ∈ (t', tupO #[wv, Value.ref it'] 0) :: (muD ++ fr) := fun p h => .tail _ h
    have s2 : ∀ p ∈ fr, p ∈ (t', tupO #[wv, Value.ref it'] 0) :: (muD ++ fr) := fun p h => .tail _ (List.mem_append_right _ h)
    exact ⟨_, _, _, _, _, _, _, pk1, A', fun p h => s2 p (hs p h), ⟨by rw [List.length_append]; exact Nat.succ_le_succ l1, Nat.le_trans l2 nn⟩,
      ⟨it', _, [], t', 0, wv, vD, rfl, rfl, Nat.zero_le _, .head _, hD.all.mono s1, hw.mono fun p h => s2 p (hs p h), .nil⟩, hR.mono nn s2⟩
  have eK : (kd == S "KIND") = false := beq_eq_false_iff_ne.mpr hK
  by_cases hb : (st = S "bare" ∨ st = S "words") ∧ kd ≠ S "MARK"
  · have hc := hf.d hb.1
    cases hcd : a.cd with
    | none => rw [hcd] at hc; cases hc
    | some dc =>
      rw [hcd] at hD
      obtain ⟨it, c, xs, t, c2, hv, vs0, rfl, rfl, h3, h4, h5, h6, h7⟩ := hD
      refine pt2_c C F (News.perm N (hp.trans pm_i)) (hap.perm (hp.trans pm_i)) (Nat.lt_of_le_of_lt h3 hn) hh (List.mem_append_right _ (.head _)) (app1 h4) eK (beq_eq_false_iff_ne.mpr hb.2) (by rw [any_two]; exact decide_eq_true hb.1) fun h' tk' g1 o1 F' N' A' => ret h' tk' _ F' N' ?_
      rw [parted, if_neg hK, if_pos hb, hcd]
      have s2 : ∀ p ∈ fr, p ∈ (g1, o1) :: fr := fun p h => .tail _ h
      exact ⟨_, _, _, _, _, _, _, pk2, A', fun p h => s2 p (hs p h), ⟨Nat.le_trans l1 nn, Nat.le_trans l2 nn⟩,
        ⟨it, _, _, t, c2, hv, vs0, rfl, rfl, by rw [List.length_append]; exact Nat.succ_le_succ h3, s2 _ h4, h5.mono s2, h6.mono s2, (h7.mono s2).append (.one (hw.mono fun p h => s2 p (hs p h)))⟩, hR.mono nn s2⟩
  have nb : kd ≠ S "MARK" → ([S "bare", S "words"].any fun z => z == st) = false := fun q => by rw [any_two]; exact decide_eq_false fun e => hb ⟨e, q⟩
  by_cases hH : kd = S "HEAD"
  · subst hH
    refine pt3_c C F (News.perm N (hp.trans pm_R)) (hap.perm (hp.trans pm_R)) (Nat.lt_of_le_of_lt l2 hn) hh (nb (by decide)) fun h' tk' t' al' at' pr' pa' g1 o1 F' N' A' => ret h' tk' _ F' N' ?_
    rw [parted, if_neg hK, if_neg hb, if_pos rfl]
    have s0 : ∀ p ∈ muR ++ fr, p ∈ (t', tupO #[wv, Value.ref al'] 0) :: (at', tupO #[Value.ref pa', Value.ref pr'] 0) :: (g1, o1) :: (muR ++ fr) := fun p h => .tail _ (.tail _ (.tail _ h))
    have s2 : ∀ p ∈ fr, p ∈ (t', tupO #[wv, Value.ref al'] 0) :: (at', tupO #[Value.ref pa', Value.ref pr'] 0) :: (g1, o1) :: (muR ++ fr) := fun p h => s0 p (List.mem_append_right _ h)
    exact ⟨_, _, _, _, _, _, _, pk3, A', fun p h => s2 p (hs p h), ⟨Nat.le_trans l1 nn, by rw [List.length_append]; exact Nat.succ_le_succ l2⟩, hD.mono nn s2,
      ⟨al', pa', pr', t', at', _, _, _, 0, 0, wv, vR, [], [], [], rfl, rfl, ⟨Nat.succ_le_succ (Nat.zero_le _), Nat.zero_le _, Nat.zero_le _⟩, .head _, .tail _ (.head _), hR.all.mono s0, hw.mono fun p h => s2 p (hs p h), .nil, .nil, .nil⟩⟩
  have eH : (kd == S "HEAD") = false := beq_eq_false_iff_ne.mpr hH
  have cr : (kd = S "BAR" ∨ kd = S "NAME" ∨ kd = S "LITERAL" ∨ kd = S "ACTION" ∨ kd = S "EMPTY") → a.cr.isSome = true := fun q => by
    have q1 : kd ≠ S "MARK" := by rcases q with rfl | rfl | rfl | rfl | rfl <;> decide
    refine hf.r (fun e => ?_) (fun e => hb ⟨.inl e, q1⟩) (fun e => hb ⟨.inr e, q1⟩) fun e => ?_
    · subst e
      rcases q with rfl | rfl | rfl | rfl | rfl <;> (rw [nx_begin, if_neg (by decide), if_neg (by decide)] at hx; cases hx)
    · subst e
      rcases q with rfl | rfl | rfl | rfl | rfl <;> (rw [nx_first, if_neg (by decide)] at hx; cases hx)
  have crv : a.cr.isSome = true → ∃ rc, a.cr = some rc := fun q => Option.isSome_iff_exists.mp q
  by_cases hB : kd = S "BAR"
  · obtain ⟨rc, hrc⟩ := crv (cr (.inl hB))
    subst hB
    rw [hrc] at hR
    obtain ⟨al, pa, pr, t, at_, c1, c2, c3, c4, c5, hv, vs0, va, xs, ys, rfl, rfl, h3, h4, h5, h6, h7, h8, h9, h10⟩ := hR
    refine pt4_c C F (News.perm N (hp.trans pm_1)) (hap.perm (hp.trans pm_1)) (by rw [List.length_append]; exact Nat.lt_of_le_of_lt h3.1 hn) hh (List.mem_append_right _ (.tail _ (.head _))) (app1 h4) (nb (by decide)) fun h' tk' at' pr' pa' g1 o1 F' N' A' => ret h' tk' _ F' N' ?_
    rw [parted, if_neg hK, if_neg hb, if_neg (by decide), if_pos rfl, hrc]
    generalize hfr : (at', tupO #[Value.ref pa', Value.ref pr'] 0) :: (g1, o1) :: (pa, W.listOf (List.toArray xs) c2) :: (pr, W.listOf (List.toArray ys) c3) :: fr = fr'
    have s2 : ∀ p ∈ fr, p ∈ fr' := fun p h => by subst hfr; exact .tail _ (.tail _ (.tail _ (.tail _ h)))
    have m1 : (at', tupO #[Value.ref pa', Value.ref pr'] 0) ∈ fr' := by subst hfr; exact .head _
    have m2 : (pa, W.listOf (List.toArray xs) c2) ∈ fr' := by subst hfr; exact .tail _ (.tail _ (.head _))
    have m3 : (pr, W.listOf (List.toArray ys) c3) ∈ fr' := by subst hfr; exact .tail _ (.tail _ (.tail _ (.head _)))
    refine ⟨_, _, _, _, _, _, fr', hfr ▸ pk4, A', fun p h => s2 p (hs p h), ⟨Nat.le_trans l1 nn, Nat.le_trans l2 nn⟩, hD.mono nn s2,
      ⟨al, pa', pr', t, at', _, _, _, c4, 0, hv, vs0, va ++ [Value.ref at_], [], [], rfl, rfl, ⟨by rw [List.length_append]; exact Nat.succ_le_succ h3.1, Nat.zero_le _, Nat.zero_le _⟩, s2 _ h4, m1, h6.mono s2, h7.mono s2, ?_, .nil, .nil⟩⟩
    show DatAll fr' (va ++ [Value.ref at_]) ((rc.1.2 ++ [rc.2]).map altLD)
    rw [List.map_append, List.map_singleton]
    exact (h8.mono s2).append (.one (RLed.alt (n := n) m2 m3 (s2 _ h5) (h9.mono s2) (h10.mono s2)))
  have eB : (kd == S "BAR") = false := beq_eq_false_iff_ne.mpr hB
  by_cases hP : st = S "prec"
  · have q1 : kd ≠ S "MARK" := fun e => by
      subst e; subst hP
      rw [nx_prec, if_neg (by decide)] at hx; cases hx
    obtain ⟨rc, hrc⟩ := crv (hf.r (by rw [hP]; decide) (by rw [hP]; decide) (by rw [hP]; decide) (by rw [hP]; decide))
    rw [hrc] at hR
    obtain ⟨al, pa, pr, t, at_, c1, c2, c3, c4, c5, hv, vs0, va, xs, ys, rfl, rfl, h3, h4, h5, h6, h7, h8, h9, h10⟩ := hR
    refine pt5_c C F (News.perm N (hp.trans pm_3)) (hap.perm (hp.trans pm_3)) (Nat.lt_of_le_of_lt h3.2.2 hn) hh (List.mem_append_right _ (.tail _ (.head _))) (app1 h4) (List.mem_append_right _ (.tail _ (.tail _ (List.mem_append_left _ (List.mem_append_right _ (.head _)))))) (app1 h5) eK eH eB (nb q1) (beq_iff_eq.mpr hP) fun h' tk' g1 o1 F' N' A' => ret h' tk' _ F' N' ?_
    rw [parted, if_neg hK, if_neg hb, if_neg hH, if_neg hB, if_pos hP, hrc]
    have s2 : ∀ p ∈ fr, p ∈ (g1, o1) :: fr := fun p h => .tail _ h
    exact ⟨_, _, _, _, _, _, _, pk5, A', fun p h => s2 p (hs p h), ⟨Nat.le_trans l1 nn, Nat.le_trans l2 nn⟩, hD.mono nn s2,
      ⟨al, pa, pr, t, at_, _, _, _, c4, c5, hv, vs0, va, xs, _, rfl, rfl, ⟨Nat.le_trans h3.1 nn, Nat.le_trans h3.2.1 nn, by rw [List.length_append]; exact Nat.succ_le_succ h3.2.2⟩, s2 _ h4, s2 _ h5, h6.mono s2, h7.mono s2, h8.mono s2, h9.mono s2, (h10.mono s2).append (.one (hw.mono fun p h => s2 p (hs p h)))⟩⟩
  have eP : (st == S "prec") = false := beq_eq_false_iff_ne.mpr hP
  have partL : ∀ (rc : RuleD × AltD) (pD : Dat) {al pa pr t at_ : Addr} {c1 c2 c3 c4 c5 : Nat} {hv : Value} {vs0 va xs ys : List Value} {n2 : Nat} {tp g1 g2 : Addr} {o0 o1 o2 : Obj},
      n2 = n + 1 → (va.length + 1 ≤ n ∧ xs.length ≤ n ∧ ys.length ≤ n) → (t, tupO #[hv, .ref al] c4) ∈ fr → (at_, tupO #[.ref pa, .ref pr] c5) ∈ fr → DatAll fr vs0 (a.rs.map ruleLD) → DatIn fr hv rc.1.1 → DatAll fr va (rc.1.2.map altLD) → DatAll fr xs rc.2.1 → DatAll fr ys rc.2.2 → DatIn ((tp, o0) :: (g1, o1) :: (g2, o2) :: fr) (.ref tp) pD →
      RLed n2 ((tp, o0) :: (g1, o1) :: (g2, o2) :: fr) a.rs (some (rc.1, (rc.2.1 ++ [pD], rc.2.2))) [(al, W.listOf (List.toArray (va ++ [Value.ref at_])) c1), (pa, W.listOf (List.toArray (xs ++ [Value.ref tp])) (c2 + 1)), (pr, W.listOf (List.toArray ys) c3)] (vs0 ++ [Value.ref t]) := by
    intro rc pD al pa pr t at_ c1 c2 c3 c4 c5 hv vs0 va xs ys n2 tp g1 g2 o0 o1 o2 hn2 h3 h4 h5 h6 h7 h8 h9 h10 hd
    subst hn2
    have s2 : ∀ p ∈ fr, p ∈ (tp, o0) :: (g1, o1) :: (g2, o2) :: fr := fun p h => .tail _ (.tail _ (.tail _ h))
    exact ⟨al, pa, pr, t, at_, _, _, _, c4, c5, hv, vs0, va, _, ys, rfl, rfl, ⟨Nat.le_trans h3.1 nn, by rw [List.length_append]; exact Nat.succ_le_succ h3.2.1, Nat.le_trans h3.2.2 nn⟩, s2 _ h4, s2 _ h5, h6.mono s2, h7.mono s2, h8.mono s2, (h9.mono s2).append (.one hd), h10.mono s2⟩
  by_cases hN : kd = S "NAME" ∨ kd = S "LITERAL"
  · have q1 : kd ≠ S "MARK" := by rcases hN with rfl | rfl <;> decide
    obtain ⟨rc, hrc⟩ := crv (cr (.inr (hN.elim .inl fun e => .inr (.inl e))))
    rw [hrc] at hR
    obtain ⟨al, pa, pr, t, at_, c1, c2, c3, c4, c5, hv, vs0, va, xs, ys, rfl, rfl, h3, h4, h5, h6, h7, h8, h9, h10⟩ := hR
    refine pt6_c C F (News.perm N (hp.trans pm_2)) (hap.perm (hp.trans pm_2)) (Nat.lt_of_le_of_lt h3.2.1 hn) hh (List.mem_append_right _ (.tail _ (.head _))) (app1 h4) (List.mem_append_right _ (.tail _ (.tail _ (List.mem_append_left _ (List.mem_append_right _ (.head _)))))) (app1 h5) eK eH eB (nb q1) eP (by rw [any_two]; exact decide_eq_true hN) fun h' tk' tp u1 g1 o1 g2 o2 F' N' A' => ret h' tk' _ F' N' ?_
    rw [parted, if_neg hK, if_neg hb, if_neg hH, if_neg hB, if_neg hP, if_pos hN, addPart, hrc]
    have s2 : ∀ p ∈ fr, p ∈ (tp, tupO #[Value.str (S "sym") u1, wv] 0) :: (g1, o1) :: (g2, o2) :: fr := fun p h => .tail _ (.tail _ (.tail _ h))
    exact ⟨_, _, _, _, _, _, _, pk6, A', fun p h => s2 p (hs p h), ⟨Nat.le_trans l1 nn, Nat.le_trans l2 nn⟩, hD.mono nn s2,
      partL rc (symD d) rfl h3 h4 h5 h6 h7 h8 h9 h10 (DatIn.tuple (vs := [_, _]) (.head _) (.cons (.str _ _) (.cons (hw.mono fun p h => s2 p (hs p h)) .nil)))⟩
  have eN : ([S "NAME", S "LITERAL"].any fun z => z == kd) = false := by rw [any_two]; exact decide_eq_false hN
  by_cases hA : kd = S "ACTION"
  · obtain ⟨rc, hrc⟩ := crv (cr (.inr (.inr (.inr (.inl hA)))))
    subst hA
    rw [hrc] at hR
    obtain ⟨al, pa, pr, t, at_, c1, c2, c3, c4, c5, hv, vs0, va, xs, ys, rfl, rfl, h3, h4, h5, h6, h7, h8, h9, h10⟩ := hR
    refine pt7_c C F (News.perm N (hp.trans pm_2)) (hap.perm (hp.trans pm_2)) (Nat.lt_of_le_of_lt h3.2.1 hn) hh (List.mem_append_right _ (.tail _ (.head _))) (app1 h4) (List.mem_append_right _ (.tail _ (.tail _ (List.mem_append_left _ (List.mem_append_right _ (.head _)))))) (app1 h5) (nb (by decide)) eP fun h' tk' tp u1 g1 o1 g2 o2 F' N' A' => ret h' tk' _ F' N' ?_
    rw [parted, if_neg hK, if_neg hb, if_neg hH, if_neg hB, if_neg hP, if_neg hN, if_pos rfl, addPart, hrc]
    have s2 : ∀ p ∈ fr, p ∈ (tp, tupO #[Value.str (S "act") u1, wv] 0) :: (g1, o1) :: (g2, o2) :: fr := fun p h => .tail _ (.tail _ (.tail _ h))
    exact ⟨_, _, _, _, _, _, _, pk6, A', fun p h => s2 p (hs p h), ⟨Nat.le_trans l1 nn, Nat.le_trans l2 nn⟩, hD.mono nn s2,
      partL rc (actD d) rfl h3 h4 h5 h6 h7 h8 h9 h10 (DatIn.tuple (vs := [_, _]) (.head _) (.cons (.str _ _) (.cons (hw.mono fun p h => s2 p (hs p h)) .nil)))⟩
  have eA : (kd == S "ACTION") = false := beq_eq_false_iff_ne.mpr hA
  by_cases hE : kd = S "EMPTY"
  · obtain ⟨rc, hrc⟩ := crv (cr (.inr (.inr (.inr (.inr hE)))))
    subst hE
    rw [hrc] at hR
    obtain ⟨al, pa, pr, t, at_, c1, c2, c3, c4, c5, hv, vs0, va, xs, ys, rfl, rfl, h3, h4, h5, h6, h7, h8, h9, h10⟩ := hR
    refine pt8_c C F (News.perm N (hp.trans pm_2)) (hap.perm (hp.trans pm_2)) (Nat.lt_of_le_of_lt h3.2.1 hn) hh (List.mem_append_right _ (.tail _ (.head _))) (app1 h4) (List.mem_append_right _ (.tail _ (.tail _ (List.mem_append_left _ (List.mem_append_right _ (.head _)))))) (app1 h5) (nb (by decide)) eP fun h' tk' tp u1 u2 g1 o1 g2 o2 F' N' A' => ret h' tk' _ F' N' ?_
    rw [parted, if_neg hK, if_neg hb, if_neg hH, if_neg hB, if_neg hP, if_neg hN, if_neg hA, if_pos rfl, addPart, hrc]
    have s2 : ∀ p ∈ fr, p ∈ (tp, tupO #[Value.str (S "empty") u1, Value.str (S "") u2] 0) :: (g1, o1) :: (g2, o2) :: fr := fun p h => .tail _ (.tail _ (.tail _ h))
    exact ⟨_, _, _, _, _, _, _, pk6, A', fun p h => s2 p (hs p h), ⟨Nat.le_trans l1 nn, Nat.le_trans l2 nn⟩, hD.mono nn s2,
      partL rc emptyD rfl h3 h4 h5 h6 h7 h8 h9 h10 (DatIn.tuple (vs := [_, _]) (.head _) (.cons (.str _ _) (.cons (.str _ _) .nil)))⟩
  have eE : (kd == S "EMPTY") = false := beq_eq_false_iff_ne.mpr hE
  have ep : parted st kd d a = a := by rw [parted, if_neg hK, if_neg hb, if_neg hH, if_neg hB, if_neg hP, if_neg hN, if_neg hA, if_neg hE]
  have endL : ∀ (h' : Heap) (tk' : Nat) (g1 : Addr) (o1 : Obj) (g2 : Addr) (o2 : Obj), Fr h₀ L h' m → News h₀ L h' ((g1, o1) :: (g2, o2) :: (D, W.listOf (List.toArray vD) cD) :: (ex ++ (R, W.listOf (List.toArray vR) cR) :: (muD ++ muR ++ fr))) → Ap ((g1, o1) :: (g2, o2) :: (D, W.listOf (List.toArray vD) cD) :: (ex ++ (R, W.listOf (List.toArray vR) cR) :: (muD ++ muR ++ fr))) → Q .none { s with heap := h', toks := tk' } := fun h' tk' g1 o1 g2 o2 F' N' A' => by
    refine ret h' tk' _ F' N' ?_
    rw [ep]
    have s2 : ∀ p ∈ fr, p ∈ (g1, o1) :: (g2, o2) :: fr := fun p h => .tail _ (.tail _ h)
    exact ⟨_, _, _, _, _, _, _, pk9, A', fun p h => s2 p (hs p h), ⟨Nat.le_trans l1 nn, Nat.le_trans l2 nn⟩, hD.mono nn s2, hR.mono nn s2⟩
  by_cases hw2 : st = S "bare" ∨ st = S "words"
  · have hM : kd = S "MARK" := Classical.byContradiction fun q => hb ⟨hw2, q⟩
    subst hM
    exact pt0_c C F (News.perm N (hp.trans pm_D)) (hap.perm (hp.trans pm_D)) (Nat.lt_of_le_of_lt l1 hn) hh eP (by rw [any_two]; exact decide_eq_true hw2) endL
  · exact pt9_c C F (News.perm N (hp.trans pm_D)) (hap.perm (hp.trans pm_D)) (Nat.lt_of_le_of_lt l1 hn) hh eK eH eB eP eA eE eN (by rw [any_two]; exact decide_eq_false hw2) endL
end
end

section
theorem start_Du : True := by
  w_top off
  k_with_none
  (k_with "k_room!" => (((try simp only [depth_under_make, depth_under_kw, depth_in1, depth_deeper, depth_caller]); (try dsimp only [ktrTop]); omega)))
  (k_with "ktr_room!" => (((try simp only [depth_under_make, depth_under_kw, depth_in1, depth_deeper, depth_caller]); (try dsimp only [ktrTop]); omega)))
  (k_with "ktr_units!" => (((try simp only [units_in1, units_deeper, Around.mark_units, units_caller]); (try dsimp only [ktrTop]); omega)))
  (k_with "ktr_rel!" => (first | k_asm | exact rot1 (by k_asm) | exact rot2 (by k_asm) | exact rot3 (by k_asm)))
  (k_with "tb_rel!" => (first | k_asm | exact fun _ h => h | (intro p hp; k_mem)))
  (k_with "size_fits!" => (((try simp only [List.size_toArray, List.length_append, List.length_cons, List.length_nil, PySem.sizeLine_eq]); omega)))
  (k_with "call ref!" => (k_here; (try dsimp only [List.nil_append, List.cons_append]); (with_reducible show wpAny _ _ (call (Value.ref 179) _ _) _ _ _); k_dflt (refine' kind_c ?zzC ?zzF ?zzN ?zzhf ?zzR ?zzhv ?_; (case zzF => k_asm); (case zzN => ktr_rel); (case zzC => tb_start); (case zzR => k_asm); (case zzhf => tb_rel); (case zzhv => assumption); k_whole; intro _ _ _ _ _; (try k_sweep))))
  (k_with "call ref!" => (k_here; (try dsimp only [List.nil_append, List.cons_append]); (with_reducible show wpAny _ _ (call (Value.ref 186) _ _) _ _ _); k_dflt (refine' take_c ?zzC ?zzF ?zzN ?zzhne ?zzhf ?zzR ?zzhv ?_; (case zzF => k_asm); (case zzN => ktr_rel); (case zzC => tb_start); (case zzR => k_asm); (case zzhf => tb_rel); (case zzhv => assumption); (case zzhne => k_all); k_whole; intro _ _ _ _ _; (try k_sweep))))
  (k_with "call builtin:len!" => (k_here; (with_reducible show wpAny _ _ (call (Value.builtin "len") [Value.ref _]) _ _ _); k_dflt (refine' kst_len ?zzk1 ?zzk2 ?zzk3 ?zzk4 ?_; (case zzk1 => k_asm); (case zzk2 => k_mem); (case zzk3 => exact rfl); (case zzk4 => first | omega | ((try simp only [List.length_cons, List.length_nil, List.length_append]); omega)); k_whole)))
  (k_with "compareOp Eq int int!" => (k_here; (with_reducible show wpAny _ _ (compareOp CmpOp.Eq (Value.int _ _) (Value.int _ _)) _ _ _); k_dflt (refine' eq_intF ?zza ?_; (case zza => omega))))
  (k_with "call builtin:len!" => (k_here; k_dflt (refine' len_strs ?zzyN ?zzym ?zzyl (fun _ _ => ?_); (case zzyN => k_asm); (case zzym => k_mem); (case zzyl => omega))))
  (k_with "subscriptTail Name Name ref int!" => (k_here; (with_reducible show wpAny _ _ (subscriptTail _ _ (Value.ref _) (Value.int (Nat.cast _) _)) _ _ _); k_dflt (refine' item_nat ?zzk1 ?zzk2 ?zzk3 ?zzk4 ?_ ?zzk6; (case zzk1 => k_asm); (case zzk2 => k_mem); (case zzk3 => with_reducible assumption); (case zzk4 => omega); (case zzk6 => with_unfolding_all rfl))))
  (k_with "subscriptTail Name Name ref str!" => (k_here; k_dflt (refine' item_tabs ?zzyN ?zzys ?zzyT ?zzyk (fun _ _ _ _ _ _ => ?_) ?zzyh ?zzyg; (case zzyN => k_asm); (case zzyT => assumption); (case zzys => first | assumption | (intro p hp; repeat (first | exact hp | exact List.mem_append_right _ hp | refine mem_tl ?_))); (case zzyk => assumption); (case zzyh => with_unfolding_all rfl); (case zzyg => (intro _; with_unfolding_all rfl)))))
  (k_with "compareOp NotIn str ref!" => (k_here; (with_reducible show wpAny _ _ (compareOp _ (Value.str _ _) (Value.ref _)) _ _ _); k_dflt (refine' notin_dstrB ?zzyN ?zzyp ?zzyd ?zzyl ?zzyb (fun _ => ?_); (case zzyN => k_asm); (case zzyb => with_reducible assumption); (case zzyp => with_reducible assumption); (case zzyd => with_reducible assumption); (case zzyl => with_reducible assumption))))
  (k_with "subscriptTail Subscript Subscript ref str!" => (k_here; k_dflt (refine' item_dstr ?zzyN ?zzyp ?zzyd ?zzyk (fun _ _ => ?_) ?zzyh ?zzyg; (case zzyN => k_asm); (case zzyp => with_reducible assumption); (case zzyd => with_reducible assumption); (case zzyk => with_reducible assumption); (case zzyh => with_unfolding_all rfl); (case zzyg => (intro _; with_unfolding_all rfl)))))
  (k_with "exec For Name Call cons nil!" => (k_here; k_dflt (refine' For_turns ?zzzF ?_; (case zzzF => k_asm))))
  (k_with "subscriptTail Name Subscript ref str!" => (k_here; k_dflt (refine' item_dstr ?zzyN ?zzyp ?zzyd ?zzyk (fun _ _ => ?_) ?zzyh ?zzyg; (case zzyN => k_asm); (case zzyp => with_reducible assumption); (case zzyd => with_reducible assumption); (case zzyk => with_reducible assumption); (case zzyh => with_unfolding_all rfl); (case zzyg => (intro _; with_unfolding_all rfl)))))
  trivial
open PySem PySem.W PyProof.Rows PySem.Spec PySem.Calls PyProof.V PyProof.Rows.LCg PyProof.Rows.LCt
set_option maxRecDepth 100000
set_option maxHeartbeats 1000000
theorem pm_0 {α : Type} {a b x : α} {r : List α} : (x :: b :: a :: r).Perm ([] ++ a :: b :: ([] ++ [] ++ (x :: r))) := by ((classical exact List.perm_iff_count.mpr fun x => by simp only [List.count_append, List.count_cons, List.count_nil, List.cons_append, List.nil_append]; omega))
theorem map6 {m : Str → Option Value} {a b c d e f : Str} {va vb vc vd ve vf : Option Value} (ha : m a = va) (hb : m b = vb) (hc : m c = vc) (hd : m d = vd) (he : m e = ve) (hf : m f = vf) :
    m = fun y => if y = a then va else if y = b then vb else if y = c then vc else if y = d then vd else if y = e then ve else if y = f then vf else m y := by
  funext y
  by_cases q : y = a
  · rw [if_pos q, q, ha]
  rw [if_neg q]
  by_cases q : y = b
  · rw [if_pos q, q, hb]
  rw [if_neg q]
  by_cases q : y = c
  · rw [if_pos q, q, hc]
  rw [if_neg q]
  by_cases q : y = d
  · rw [if_pos q, q, hd]
  rw [if_neg q]
  by_cases q : y = e
  · rw [if_pos q, q, he]
  rw [if_neg q]
  by_cases q : y = f
  · rw [if_pos q, q, hf]
  rw [if_neg q]
theorem Led.sub {ex fz n' : List (Addr × Obj)} {D R : Addr} {n : Nat} {a : Acc} (h : Led ex fz D R n a n') : ∀ p ∈ fz, p ∈ n' := fun p hp => by
  obtain ⟨vD, cD, vR, cR, muD, muR, fr, hpm, hap, hs, _⟩ := h
  exact hpm.mem_iff.mpr (List.mem_append_right _ (.tail _ (.tail _ (List.mem_append_right _ (hs p hp)))))
theorem Led.ap {ex fz n' : List (Addr × Obj)} {D R : Addr} {n : Nat} {a : Acc} (h : Led ex fz D R n a n') : Ap n' := by
  obtain ⟨vD, cD, vR, cR, muD, muR, fr, hpm, hap, h⟩ := h
  exact hap
theorem Led.dats {fz n' : List (Addr × Obj)} {D R : Addr} {n : Nat} {a : Acc} (h : Led [] fz D R n a n') : DatIn n' (.ref D) (.list (a.dsAll.map declD)) ∧ DatIn n' (.ref R) (.list (a.rsAll.map ruleLD)) := by
  obtain ⟨vD, cD, vR, cR, muD, muR, fr, hpm, hap, hs, hl, hD, hR⟩ := h
  have s : ∀ p, p ∈ (D, W.listOf (List.toArray vD) cD) :: (R, W.listOf (List.toArray vR) cR) :: (muD ++ muR ++ fr) → p ∈ n' := fun p hp => hpm.mem_iff.mpr hp
  refine ⟨DatIn.list (s _ (.head _)) (hD.all.mono fun p hp => s p (.tail _ (.tail _ ?_))), DatIn.list (s _ (.tail _ (.head _))) (hR.all.mono fun p hp => s p (.tail _ (.tail _ ?_)))⟩
  · show p ∈ muD ++ muR ++ fr
    rcases List.mem_append.mp hp with h | h <;> simp [h]
  · show p ∈ muD ++ muR ++ fr
    rcases List.mem_append.mp hp with h | h <;> simp [h]
theorem Led.push {fz n' : List (Addr × Obj)} {D R I : Addr} {o : Obj} {n : Nat} {a : Acc} (h : Led [] fz D R n a n') (hI : ∀ p ∈ n', p.1 ≠ I) : Led [(I, o)] fz D R n a ((I, o) :: n') := by
  obtain ⟨vD, cD, vR, cR, muD, muR, fr, hpm, hap, e1, e2, e3, e4⟩ := h
  exact ⟨vD, cD, vR, cR, muD, muR, fr, List.Perm.cons _ hpm, List.pairwise_cons.mpr ⟨fun p hp e => hI p hp e.symm, hap⟩, e1, e2, e3, e4⟩
theorem Led.pop {fz n' : List (Addr × Obj)} {D R I : Addr} {o : Obj} {n : Nat} {a : Acc} (h : Led [(I, o)] fz D R n a n') : ∃ n2, n'.Perm ((I, o) :: n2) ∧ (∀ p ∈ n2, p.1 ≠ I) ∧ Led [] fz D R n a n2 := by
  obtain ⟨vD, cD, vR, cR, muD, muR, fr, hpm, hap, e1, e2, e3, e4⟩ := h
  have hap2 := hap.perm hpm
  exact ⟨_, hpm, hap2.head, vD, cD, vR, cR, muD, muR, fr, List.Perm.refl _, (List.pairwise_cons.mp hap2).2, e1, e2, e3, e4⟩
theorem Ap.consA {d : Addr} {o : Obj} {l : List (Addr × Obj)} (h : Ap l) (k : ∀ p ∈ l, p.1 < d) : Ap ((d, o) :: l) := List.pairwise_cons.mpr ⟨fun p hp => Nat.ne_of_gt (k p hp), h⟩
theorem Led.zero {r : List (Addr × Obj)} {a b x : Addr} {o : Obj} (hap : Ap r) (l0 : ∀ p ∈ r, p.1 < a) (l1 : AllLt b ((a, W.listOf #[] 0) :: r)) (l2 : AllLt x ((b, W.listOf #[] 0) :: (a, W.listOf #[] 0) :: r)) : Led [] r a b 0 acc0 ((x, o) :: (b, W.listOf #[] 0) :: (a, W.listOf #[] 0) :: r) :=
  ⟨[], 0, [], 0, [], [], (x, o) :: r, pm_0, ((hap.consA l0).cons l1).cons l2, fun _ hp => .tail _ hp, ⟨Nat.zero_le _, Nat.zero_le _⟩, ⟨rfl, .nil⟩, ⟨rfl, .nil⟩⟩
/-- what stands before each turn of _law_due -/
noncomputable def DuJ (kl tl lv D R : Addr) (r : List (Addr × Obj)) (toks : List Tk) (i : Nat) (m' : Str → Option Value) (n' : List (Addr × Obj)) : Prop :=
  ∃ st t a, m' (S "kinds") = some (.ref kl) ∧ m' (S "tokens") = some (.ref tl) ∧ m' (S "leads") = some (.ref lv) ∧ m' (S "decls") = some (.ref D) ∧ m' (S "rules") = some (.ref R) ∧ m' (S "state") = some (.str st t) ∧
    Led [] r D R i a n' ∧ Fit st a ∧ (i < toks.length → (atS waysT st).isSome = true) ∧ dueS (toks.drop i) i st a = dueS toks 0 (S "begin") acc0
theorem way_on {st kd st' : Str} (h : nextS st kd = some st') (hk : kd ≠ S "$end") : (atS waysT st').isSome = true := by
  unfold nextS getS at h
  cases e : atS waysT st with
  | none => rw [e] at h; cases h
  | some es =>
    rw [e] at h
    have k : ∀ p ∈ waysT, ∀ q ∈ p.2, q.1 ≠ S "$end" → (atS waysT q.2).isSome = true := by decide +kernel
    exact k _ (atS_mem e) _ (atS_mem h) hk
theorem FStep.ret {h₀ : Heap} {L I : Addr} {it : Obj} {s s₃ : Shared} {Jn : (Str → Option Value) → List (Addr × Obj) → Prop} {Q : Flow → Shared → Prop} {v : Value} (h : Q (.ret v) s₃) : FStep h₀ L I it s Jn Q (.ret v) s₃ := h
theorem strs_at {ks : List (Str × Tok)} {toks : List Tk} {i : Nat} {t : Tk} (h : ks.map (·.1) = toks.map (·.1)) (hv : toks[i]? = some t) : ∃ tk, (strsV ks)[i]? = some (.str t.1 tk) := by
  have e : (ks.map (·.1))[i]? = some t.1 := by rw [h, List.getElem?_map, hv]; rfl
  rw [List.getElem?_map] at e
  cases hk : ks[i]? with
  | none => rw [hk] at e; cases e
  | some p =>
    rw [hk] at e
    refine ⟨p.2, ?_⟩
    rw [strsV, List.getElem?_map, hk]
    obtain ⟨p1, p2⟩ := p
    cases e; rfl
theorem due_step {toks : List Tk} {i : Nat} {t : Tk} {st st' : Str} {a : Acc} (hv : toks[i]? = some t) (h : nextS st t.1 = some st') : dueS (toks.drop i) i st a = dueS (toks.drop (i + 1)) (i + 1) st' (parted st t.1 t.2.2 a) := T_step hv h
theorem due_err {toks : List Tk} {i : Nat} {t : Tk} {st : Str} {a : Acc} (hv : toks[i]? = some t) (h : nextS st t.1 = none) : dueS (toks.drop i) i st a = .err i := T_err hv h
section
variable {w : World} {mean : ExcName → Option Value} {mg mb : Str → Option Value} {dp un : Nat} {gd : Option (List Code)} {cn : Str} {cs : Scope} {a : Addr} {ccd : Value} {cl : List (Str × Addr)} {outer : List Env} {A₀ : Around} {base h₀ : Heap} {L : Addr} {m : Str → Option Value} {s : Shared} {Q E : Value → Shared → Prop}
  {r : List (Addr × Obj)} {kl tl lv : Addr} {ks : List (Str × Tok)} {vs : List Value} {toks : List Tk} {ck ct : Nat}
/-- the tokens of the law lie in the ledger -/
structure ToksIn (fz : List (Addr × Obj)) (tl : Addr) (ct : Nat) (vs : List Value) (toks : List Tk) : Prop where
  l : (tl, W.listOf vs.toArray ct) ∈ fz
  t : ∀ (k : Nat) (t : Tk), toks[k]? = some t → ∃ v, vs[k]? = some v ∧ TokIn fz v t.1 t.2.1 (7 * (k : Int))
  d : ∀ t ∈ toks, DatIn fz t.2.1 t.2.2
theorem due_c (C : Cx w mean mg mb dp un cs A₀ base outer h₀ 14) (F : Fr h₀ L s.heap m) (N : News h₀ L s.heap r) (hap : Ap r) (hkl : (kl, W.listOf (strsV ks).toArray ck) ∈ r) (hT : ToksIn r tl ct vs toks) (hks : ks.map (·.1) = toks.map (·.1)) (hlen : toks.length < 100) (hW : TabsIn w r (.ref lv) waysT)
  (hend : ∀ (k : Nat) (t : Tk), toks[k]? = some t → t.1 = S "$end" → k + 1 = toks.length)
  (ret1 : ∀ h' tk' fz' tp k t, dueS toks 0 (S "begin") acc0 = .err k → Fr h₀ L h' m → News h₀ L h' fz' → (∀ p ∈ r, p ∈ fz') → Ap fz' → (tp, tupO #[.int (k : Int) t, .none, .none] 0) ∈ fz' → Q (.ref tp) { s with heap := h', toks := tk' })
  (ret2 : ∀ h' tk' fz' tp a t D R, dueS toks 0 (S "begin") acc0 = .ok a → Fr h₀ L h' m → News h₀ L h' fz' → (∀ p ∈ r, p ∈ fz') → Ap fz' → (tp, tupO #[.int (-1) t, .ref D, .ref R] 0) ∈ fz' → DatIn fz' (.ref D) (.list (a.dsAll.map declD)) → DatIn fz' (.ref R) (.list (a.rsAll.map ruleLD)) → Q (.ref tp) { s with heap := h', toks := tk' }) :
  wpAny (model PG w) (ktrTop dp un gd cn cs L a ccd cl outer) (call (.ref 276) [.ref kl, .ref tl, .ref lv]) Q E s := by
  obtain ⟨B, X, T, hk, hd, hu⟩ := C
  have hMk := kstMark
  have hkl2 : ks.length = toks.length := by simpa using congrArg List.length hks
  refine wpAny_call ?_
  k_dflt ktr_enter
  (repeat' ((fail_if_success (with_reducible show wpAny _ _ (pyIter _) _ _ _)); (fail_if_success (with_reducible show wpAny _ _ (call (Value.ref 269) _ _) _ _ _)); first | (k_unfold; (try dsimp only)) | (k_end; kc_close) | walk1 | (dsimp only; walk1) | (leave1; walk_say "STEP leave1"; (try dsimp only)) | fail "no step"))
  refine' for_range (n := toks.length) (J := DuJ kl tl lv ?jD ?jR r toks) rfl (by assumption) (congrArg Nat.cast hkl2) ?jn (fun _ _ => rfl) ?jF ?jN ?j0 ?jstep ?jdone
  case jF => k_asm
  case jN => k_asm
  case jn => omega
  case j0 =>
    refine ⟨S "begin", _, acc0, by with_unfolding_all rfl, by with_unfolding_all rfl, by with_unfolding_all rfl, by with_unfolding_all rfl, by with_unfolding_all rfl, by with_unfolding_all rfl, ?_, ⟨fun q => absurd q (by decide), fun q => absurd rfl q⟩, fun _ => by decide +kernel, by rw [List.drop_zero]⟩
    exact Led.zero hap (by assumption) (by assumption) (by assumption)
  case jstep =>
    rintro I i t m₁ n₁ h₁ tk₁ it hi ⟨st, ts, ac, p1, p2, p3, p4, p5, p6, hL, hf, hst, hS⟩ hIn hIlt F₁ N₁
    rw [map6 p1 p2 p3 p4 p5 p6] at F₁
    obtain ⟨⟨kd, wv, d⟩, hv⟩ : ∃ t, toks[i]? = some t := ⟨_, List.getElem?_eq_getElem hi⟩
    obtain ⟨v, hv', ht⟩ := hT.t i _ hv
    obtain ⟨tkk, hx1⟩ : ∃ tkk, (strsV ks)[i]? = some (.str kd tkk) := strs_at hks hv
    have hL1 := hL.push (o := it) hIn
    have hs1 := hL1.sub
    have ht1 := ht.mono hs1
    have hW1 := hW
    have hk1 := hs1 _ hkl
    have hl1 := hs1 _ hT.l
    have hst1 := hst hi
    obtain ⟨xt, dxt, px, dpx, h1, h2, h3, h4, g1, g2, g3, t1, t2, t3, t4, t5, u1, u2, u3, u4, n2, n3, vtx, vl, vc, e, ma, mb, mc, md⟩ := ht1
    subst e
    have hdw := hT.d _ (List.mem_of_getElem? hv)
    have hw : handedIn wv = true := hdw.handed
    cases hx : nextS st kd with
    | none =>
      have hb0 : (atS (getS st) kd).isSome = false := by rw [show atS (getS st) kd = none from hx]; rfl
      (repeat' ((fail_if_success (with_reducible show wpAny _ _ (pyIter _) _ _ _)); (fail_if_success (with_reducible show wpAny _ _ (call (Value.ref 269) _ _) _ _ _)); first | (k_unfold; (try dsimp only)) | (k_end; kc_close) | walk1 | (dsimp only; walk1) | (leave1; walk_say "STEP leave1"; (try dsimp only)) | fail "no step"))
      refine FStep.ret ?_
      dsimp only
      (repeat' ((fail_if_success (with_reducible show wpAny _ _ (pyIter _) _ _ _)); (fail_if_success (with_reducible show wpAny _ _ (call (Value.ref 269) _ _) _ _ _)); first | (k_unfold; (try dsimp only)) | (k_end; kc_close) | walk1 | (dsimp only; walk1) | (leave1; walk_say "STEP leave1"; (try dsimp only)) | fail "no step"))
      rename_i kF kN kT kX
      refine ret1 _ _ _ _ i t ?_ kF kN (fun p hp => .tail _ (hs1 p hp)) (hL1.ap.cons (by assumption)) (.head _)
      rw [← hS]
      exact due_err hv hx
    | some st' =>
      have hb0 : (atS (getS st) kd).isSome = true := by rw [show atS (getS st) kd = some st' from hx]; rfl
      (repeat' ((fail_if_success (with_reducible show wpAny _ _ (pyIter _) _ _ _)); (fail_if_success (with_reducible show wpAny _ _ (call (Value.ref 269) _ _) _ _ _)); first | (k_unfold; (try dsimp only)) | (k_end; kc_close) | walk1 | (dsimp only; walk1) | (leave1; walk_say "STEP leave1"; (try dsimp only)) | fail "no step"))
      refine' parted_s (ex := [(I, it)]) ?zC ?zF ?zN hL1 (by omega) hdw hx hf (fun h' tk' n' F' N' L' => ?_)
      case zF => k_asm
      case zN => k_asm
      case zC => tb_start
      have hs2 := L'.sub
      have hk2 := hs2 _ hkl
      have hx' : atS (getS st) kd = some st' := hx
      (repeat' ((fail_if_success (with_reducible show wpAny _ _ (pyIter _) _ _ _)); (fail_if_success (with_reducible show wpAny _ _ (call (Value.ref 269) _ _) _ _ _)); first | (k_unfold; (try dsimp only)) | (k_end; kc_close) | walk1 | (dsimp only; walk1) | (leave1; walk_say "STEP leave1"; (try dsimp only)) | fail "no step"))
      obtain ⟨n2, hpm, hne2, hL2⟩ := L'.pop
      rename_i kF _ _ _
      refine FStep.next (n' := n2) (by assumption) (News.perm (by assumption) hpm) hne2 ⟨st', _, parted st kd d ac, by with_unfolding_all rfl, by with_unfolding_all rfl, by with_unfolding_all rfl, by with_unfolding_all rfl, by with_unfolding_all rfl, by with_unfolding_all rfl, hL2, hf.next hx, fun hi2 => way_on hx fun q => ?_, ?_⟩
      · have := hend i _ hv q
        omega
      · rw [← hS]
        exact (due_step hv hx).symm
  case jdone =>
    rintro h9 tk9 m9 n9 F9 N9 ⟨st, ts, ac, p1, p2, p3, p4, p5, p6, hL, hf, hst, hS⟩
    rw [map6 p1 p2 p3 p4 p5 p6] at F9
    (repeat' ((fail_if_success (with_reducible show wpAny _ _ (pyIter _) _ _ _)); (fail_if_success (with_reducible show wpAny _ _ (call (Value.ref 269) _ _) _ _ _)); first | (k_unfold; (try dsimp only)) | (k_end; kc_close) | walk1 | (dsimp only; walk1) | (leave1; walk_say "STEP leave1"; (try dsimp only)) | fail "no step"))
    rename_i kF kN kT kX
    have hdt := hL.dats
    refine ret2 _ _ _ _ ac _ _ _ ?_ kF kN (fun p hp => .tail _ (hL.sub p hp)) (hL.ap.consA (by assumption)) (.head _) (hdt.1.mono fun p hp => .tail _ hp) (hdt.2.mono fun p hp => .tail _ hp)
    rw [← hS, List.drop_length, dueS]
end
end

section
theorem start_Cp : True := by
  w_top off
  k_with_none
  (k_with "k_room!" => (((try simp only [depth_under_make, depth_under_kw, depth_in1, depth_deeper, depth_caller]); (try dsimp only [ktrTop]); omega)))
  (k_with "ktr_room!" => (((try simp only [depth_under_make, depth_under_kw, depth_in1, depth_deeper, depth_caller]); (try dsimp only [ktrTop]); omega)))
  (k_with "ktr_units!" => (((try simp only [units_in1, units_deeper, Around.mark_units, units_caller]); (try dsimp only [ktrTop]); omega)))
  (k_with "ktr_rel!" => (first | k_asm | exact rot1 (by k_asm) | exact rot2 (by k_asm) | exact rot3 (by k_asm)))
  (k_with "tb_rel!" => (first | k_asm | exact fun _ h => h | (intro p hp; k_mem)))
  (k_with "size_fits!" => (((try simp only [List.size_toArray, List.length_append, List.length_cons, List.length_nil, PySem.sizeLine_eq]); omega)))
  trivial
open PySem PySem.W PyProof.Rows PySem.Spec PySem.Calls PyProof.V PyProof.Rows.LCg PyProof.Rows.LCt PyProof.Rows.LCp
set_option maxRecDepth 100000
set_option maxHeartbeats 2000000
/-- what was made is apart from what stood -/
noncomputable def Fresh (nw r : List (Addr × Obj)) : Prop := ∀ q ∈ nw, ∀ p ∈ r, p.1 ≠ q.1
theorem Fresh.nil {r : List (Addr × Obj)} : Fresh [] r := fun _ h => nomatch h
theorem Fresh.app {a b r : List (Addr × Obj)} (h : Fresh a r) (k : Fresh b r) : Fresh (a ++ b) r := fun q hq => (List.mem_append.mp hq).elim (h q) (k q)
theorem Fresh.sub {a r r' : List (Addr × Obj)} (h : Fresh a r) (k : ∀ p ∈ r', p ∈ r) : Fresh a r' := fun q hq p hp => h q hq p (k p hp)
theorem Fresh.one {d : Addr} {o : Obj} {r : List (Addr × Obj)} (h : Off1 d r) : Fresh [(d, o)] r := fun q hq p hp => by rw [List.mem_singleton.mp hq]; exact off1 h p hp
theorem Fresh.consA {d : Addr} {o : Obj} {n r : List (Addr × Obj)} (h : ∀ p ∈ r, p.1 ≠ d) (k : Fresh n r) : Fresh ((d, o) :: n) r := fun q hq p hp => by
  rcases List.mem_cons.mp hq with rfl | hq
  · exact h p hp
  · exact k q hq p hp
section
variable {prog : Program} {w : World} {A : Around} {E : Value → Shared → Prop} {s : Shared} {h₀ : Heap} {L : Addr} {m : Str → Option Value} {env : Env} {r fz nw : List (Addr × Obj)} {ds : List Dat} {f : Dat → Dat} {vs : List Value} {ax : Addr} {c : Nat}
/-- what an element's evaluation leaves -/
noncomputable def EltPost (h₀ : Heap) (L : Addr) (m : Str → Option Value) (s₁ : Shared) (led r0 : List (Addr × Obj)) (W : Dat) (y : Value) (s₂ : Shared) : Prop :=
  ∃ h' tk nw, s₂ = { s₁ with heap := h', toks := tk } ∧ Fr h₀ L h' m ∧ News h₀ L h' (nw ++ led) ∧ Fresh nw led ∧ DatIn (nw ++ r0) y W
theorem EltPost.mk {s₁ : Shared} {led r0 : List (Addr × Obj)} {W : Dat} {y : Value} {h' : Heap} {tk : Nat} (nw : List (Addr × Obj)) (F : Fr h₀ L h' m) (N : News h₀ L h' (nw ++ led)) (hf : Fresh nw led) (hd : DatIn (nw ++ r0) y W) :
    EltPost h₀ L m s₁ led r0 W y { s₁ with heap := h', toks := tk } := ⟨h', tk, nw, rfl, F, N, hf, hd⟩
noncomputable def JD (r fz : List (Addr × Obj)) (ds : List Dat) (f : Dat → Dat) (i : Nat) (ys : List Value) (news : List (Addr × Obj)) : Prop :=
  ∃ nw, news = nw ++ r ∧ Fresh nw r ∧ DatAll (nw ++ fz) ys ((ds.take i).map f)
theorem eltEnd {s₁ s₂ : Shared} {I C D : Addr} {oI oC : Obj} {ys : List Value} {i : Nat} {d : Dat} {y : Value} (h : EltPost h₀ L m s₁ ((I, oI) :: (C, oC) :: (D, lst ys) :: (nw ++ r)) (nw ++ fz) (f d) y s₂) (hoff : Off3 I C D (nw ++ r)) (hm : (ax, W.listOf vs.toArray c) ∈ r) (hfr : Fresh nw r)
    (hys : DatAll (nw ++ fz) ys ((ds.take i).map f)) (hdi : ds[i]? = some d) : CompEnd h₀ L m s₁ I oI C oC D (lst ys) (SrcAt h₀ ax vs.toArray) (fun y news' => JD r fz ds f (i + 1) (ys ++ [y]) news') y s₂ := by
  obtain ⟨h', tk, n2, rfl, F, N, hf, hd⟩ := h
  refine ⟨h', tk, n2 ++ (nw ++ r), rfl, F, fun p hp => N p ?_, Off3.of fun p hp => ?_, .inr ⟨_, List.mem_append_right _ (List.mem_append_right _ hm), rfl, _, rfl⟩, n2 ++ nw, by rw [List.append_assoc], (hf.sub fun p hp => .tail _ (.tail _ (.tail _ (List.mem_append_right _ hp)))).app hfr, ?_⟩
  · simp only [List.mem_cons, List.mem_append] at hp ⊢
    rcases hp with h | h | h | h | h | h <;> simp [h]
  · rcases List.mem_append.mp hp with hp | hp
    · exact ⟨fun e => hf p hp _ (.head _) e.symm, fun e => hf p hp _ (.tail _ (.head _)) e.symm, fun e => hf p hp _ (.tail _ (.tail _ (.head _))) e.symm⟩
    · exact hoff.mem p hp
  · have e : ds.take (i + 1) = ds.take i ++ [d] := by simp [List.take_add_one, hdi]
    rw [e, List.map_append, List.map_singleton]
    rw [List.append_assoc]
    exact (hys.mono fun p hp => List.mem_append_right _ hp).append (.one hd)
theorem compP_ind {elt : PySem.Expr} {x x₂ : Str} {scope : Scope} {cl : List (Str × Addr)} {S : List (Addr × Obj) → Prop} {P : Nat → Value → Prop} {Fin : List Value → List (Addr × Obj) → Prop} (n : Nat) (J : Nat → List Value → List (Addr × Obj) → Prop)
    (turn : ∀ i ys news v, i < n → J i ys news → P i v → ∃ (t : Addr) (ot : Obj) (v₁ v₂ : Value) (nt : Nat), v = .ref t ∧ (t, ot) ∈ news ∧ ot.cls = .type "tuple" ∧ ot.data = .seq #[v₁, v₂] nt ∧
      ∀ I oI C oC D m₂ h tk (E' : Value → Shared → Prop), NsObj oC m₂ → m₂ x = some v₁ → m₂ x₂ = some v₂ → Fr h₀ L h m → News h₀ L h ((I, oI) :: (C, oC) :: (D, lst ys) :: news) → Off3 I C D news → ((@Ne Nat I C) ∧ (@Ne Nat I D) ∧ (@Ne Nat C D)) →
        wpAny (model prog w) A (eval elt (compEnvC scope cl C env)) (CompEnd h₀ L m { s with heap := h, toks := tk } I oI C oC D (lst ys) S (fun y news' => J (i + 1) (ys ++ [y]) news')) E' { s with heap := h, toks := tk })
    (fin : ∀ ys news, J n ys news → Fin ys news) : ∀ k i ys news, i + k = n → J i ys news → CompRestP prog w A h₀ L m env elt x x₂ scope cl s S P Fin k i ys news
  | 0, i, ys, news, hi, hJ => fin ys news (by have : i = n := hi; exact this ▸ hJ)
  | k + 1, i, ys, news, hi, hJ => CompRestP.succ fun v hv => by
    obtain ⟨t, ot, v₁, v₂, nt, h1, h2, h3, h4, h5⟩ := turn i ys news v (by omega) hJ hv
    exact ⟨t, ot, v₁, v₂, nt, h1, h2, h3, h4, fun I oI C oC D m₂ h tk E' p1 p2 p3 p4 p5 p6 p7 => wpAny_mono (h5 I oI C oC D m₂ h tk E' p1 p2 p3 p4 p5 p6 p7) (fun y s₂ q => CompEnd.mono q fun y n' j => compP_ind n J turn fin k _ _ _ (by omega) j) fun _ _ e => e⟩
theorem dat_at {v : Value} {i : Nat} (hd : DatAll fz vs ds) (h : vs.toArray[i]? = some v) : ∃ d, ds[i]? = some d ∧ d ∈ ds ∧ DatIn fz v d := by
  rw [List.getElem?_toArray] at h
  have hi := (List.getElem?_eq_some_iff.mp h).1
  rw [hd.length] at hi
  obtain ⟨u, hu, hx⟩ := hd.get hi
  rw [h] at hu
  cases hu
  exact ⟨_, List.getElem?_eq_getElem hi, List.getElem_mem hi, hx⟩
theorem srcU {elt : PySem.Expr} {x : Str} {scope : Scope} {cl : List (Str × Addr)} {Fin : Shared → List Value → List (Addr × Obj) → Prop} (hh : A.handled = none) (F : Fr h₀ L s.heap m) (N : News h₀ L s.heap r) (hs : ∀ p ∈ fz, p ∈ r) (hm : (ax, W.listOf vs.toArray c) ∈ r) (hd : DatAll fz vs ds) (hlen : ds.length < 1000) (f : Dat → Dat)
    (elem : ∀ d v nw I oI C oC D ys m₂ h tk (E' : Value → Shared → Prop), d ∈ ds → DatIn fz v d → Fresh nw r → NsObj oC m₂ → m₂ x = some v → Fr h₀ L h m → News h₀ L h ((I, oI) :: (C, oC) :: (D, lst ys) :: (nw ++ r)) → Off3 I C D (nw ++ r) → ((@Ne Nat I C) ∧ (@Ne Nat I D) ∧ (@Ne Nat C D)) →
      wpAny (model prog w) A (eval elt (compEnvC scope cl C env)) (EltPost h₀ L m { s with heap := h, toks := tk } ((I, oI) :: (C, oC) :: (D, lst ys) :: (nw ++ r)) (nw ++ fz) (f d)) E' { s with heap := h, toks := tk })
    (fin : ∀ nw ys g, Fresh nw r → DatAll (nw ++ fz) ys (ds.map f) → Fin { s with heap := g } ys (nw ++ r)) :
    CompSrc prog w A h₀ L m env elt x scope cl Fin (.ref ax) s := by
  have hl := hd.length
  refine CompSrc.ledger hh F N hm (by rw [List.size_toArray, sizeLine_eq]; omega) fun g => ?_
  refine compU_ind ds.length (JD r fz ds f) (fun i ys news v I oI C oC D m₂ h tk E' hi hJ hv p1 p2 p3 p4 p5 p6 => ?_) (fun ys news hJ => ?_) _ 0 [] r (by rw [List.size_toArray, hl]; omega) ⟨[], rfl, .nil, .nil⟩
  · obtain ⟨nw, rfl, hfr, hys⟩ := hJ
    obtain ⟨d, hdi, hdm, hdv⟩ := dat_at hd hv
    exact wpAny_mono (elem d v nw I oI C oC D ys m₂ h tk E' hdm hdv hfr p1 p2 p3 p4 p5 p6) (fun y s₂ q => eltEnd q p5 hm hfr hys hdi) fun _ _ e => e
  · obtain ⟨nw, rfl, hfr, hys⟩ := hJ
    rw [List.take_length] at hys
    exact fin nw ys g hfr hys
theorem srcP {elt : PySem.Expr} {x x₂ : Str} {scope : Scope} {cl : List (Str × Addr)} {Fin : Shared → List Value → List (Addr × Obj) → Prop} (hh : A.handled = none) (F : Fr h₀ L s.heap m) (N : News h₀ L s.heap r) (hs : ∀ p ∈ fz, p ∈ r) (hm : (ax, W.listOf vs.toArray c) ∈ r) (hd : DatAll fz vs ds) (hlen : ds.length < 1000) (hpair : ∀ d ∈ ds, ∃ a b, d = .tuple [a, b]) (f : Dat → Dat)
    (elem : ∀ a b v₁ v₂ nw I oI C oC D ys m₂ h tk (E' : Value → Shared → Prop), Dat.tuple [a, b] ∈ ds → DatIn fz v₁ a → DatIn fz v₂ b → Fresh nw r → NsObj oC m₂ → m₂ x = some v₁ → m₂ x₂ = some v₂ → Fr h₀ L h m → News h₀ L h ((I, oI) :: (C, oC) :: (D, lst ys) :: (nw ++ r)) → Off3 I C D (nw ++ r) → ((@Ne Nat I C) ∧ (@Ne Nat I D) ∧ (@Ne Nat C D)) →
      wpAny (model prog w) A (eval elt (compEnvC scope cl C env)) (EltPost h₀ L m { s with heap := h, toks := tk } ((I, oI) :: (C, oC) :: (D, lst ys) :: (nw ++ r)) (nw ++ fz) (f (.tuple [a, b]))) E' { s with heap := h, toks := tk })
    (fin : ∀ nw ys g, Fresh nw r → DatAll (nw ++ fz) ys (ds.map f) → Fin { s with heap := g } ys (nw ++ r)) :
    SrcLP prog w A h₀ L m env elt x x₂ scope cl Fin (.ref ax) s := by
  have hl := hd.length
  refine SrcLP.ledger hh F N hm (by rw [List.size_toArray, sizeLine_eq]; omega) fun g => ?_
  refine compP_ind ds.length (JD r fz ds f) (fun i ys news v hi hJ hv => ?_) (fun ys news hJ => ?_) _ 0 [] r (by rw [List.size_toArray, hl]; omega) ⟨[], rfl, .nil, .nil⟩
  · obtain ⟨nw, rfl, hfr, hys⟩ := hJ
    obtain ⟨d, hdi, hdm, hdv⟩ := dat_at hd hv
    obtain ⟨a, b, rfl⟩ := hpair d hdm
    cases hdv with
    | tuple hmt hall =>
      cases hall with
      | cons ha r1 =>
        cases r1 with
        | cons hb r2 =>
          cases r2
          refine ⟨_, _, _, _, _, rfl, List.mem_append_right _ (hs _ hmt), rfl, rfl, fun I oI C oC D m₂ h tk E' p1 p2 p3 p4 p5 p6 p7 => ?_⟩
          exact wpAny_mono (elem a b _ _ nw I oI C oC D ys m₂ h tk E' hdm ha hb hfr p1 p2 p3 p4 p5 p6 p7) (fun y s₂ q => eltEnd q p6 hm hfr hys hdi) fun _ _ e => e
  · obtain ⟨nw, rfl, hfr, hys⟩ := hJ
    rw [List.take_length] at hys
    exact fin nw ys g hfr hys
end
section
variable {prog : Program} {w : World} {A : Around} {E : Value → Shared → Prop} {s : Shared} {h₀ : Heap} {L l : Addr} {m : Str → Option Value} {news : List (Addr × Obj)} {vs : List Value} {c : Nat}
theorem tuple_of {Q : Value → Shared → Prop} (F : Fr h₀ L s.heap m) (N : News h₀ L s.heap news) (hm : (l, ({ cls := .type "list", data := .seq vs.toArray c } : Obj)) ∈ news) (hz : vs.length < 1000)
    (h : ∀ D h', Fr h₀ L h' m → News h₀ L h' ((D, ({ cls := .type "tuple", data := .seq vs.toArray } : Obj)) :: news) → (∀ p ∈ news, p.1 < D) → Q (.ref D) { s with heap := h' }) : wpAny (model prog w) A (call (.type "tuple") [.ref l]) Q E s :=
  kde_tupleOf F N ⟨_, (N _ hm).1, rfl, _, rfl⟩ (by rw [List.size_toArray]; omega) rfl h
end
end

section
theorem start_To : True := by
  w_top off
  k_with_none
  (k_with "k_room!" => (((try simp only [depth_under_make, depth_under_kw, depth_in1, depth_deeper, depth_caller]); (try dsimp only [ktrTop]); omega)))
  (k_with "ktr_room!" => (((try simp only [depth_under_make, depth_under_kw, depth_in1, depth_deeper, depth_caller]); (try dsimp only [ktrTop]); omega)))
  (k_with "ktr_units!" => (((try simp only [units_in1, units_deeper, Around.mark_units, units_caller]); (try dsimp only [ktrTop]); omega)))
  (k_with "ktr_rel!" => (first | k_asm | exact rot1 (by k_asm) | exact rot2 (by k_asm) | exact rot3 (by k_asm)))
  (k_with "tb_rel!" => (first | k_asm | exact fun _ h => h | (intro p hp; k_mem)))
  (k_with "size_fits!" => (((try simp only [List.size_toArray, List.length_append, List.length_cons, List.length_nil, PySem.sizeLine_eq]); omega)))
  (k_with "call ref!" => (k_here; (try dsimp only [List.nil_append, List.cons_append]); (with_reducible show wpAny _ _ (call (Value.ref 179) _ _) _ _ _); k_dflt (refine' kind_c ?zzC ?zzF ?zzN ?zzhf ?zzR ?zzhv ?_; (case zzF => k_asm); (case zzN => ktr_rel); (case zzC => tb_start); (case zzR => k_asm); (case zzhf => tb_rel); (case zzhv => assumption); k_whole; intro _ _ _ _ _; (try k_sweep))))
  (k_with "call ref!" => (k_here; (try dsimp only [List.nil_append, List.cons_append]); (with_reducible show wpAny _ _ (call (Value.ref 186) _ _) _ _ _); k_dflt (refine' take_c ?zzC ?zzF ?zzN ?zzhne ?zzhf ?zzR ?zzhv ?_; (case zzF => k_asm); (case zzN => ktr_rel); (case zzC => tb_start); (case zzR => k_asm); (case zzhf => tb_rel); (case zzhv => assumption); (case zzhne => k_all); k_whole; intro _ _ _ _ _; (try k_sweep))))
  (k_with "call type:tuple!" => (k_here; (with_reducible show wpAny _ _ (call (Value.type _) [Value.ref _]) _ _ _); k_dflt (refine' tuple_of ?zzzF ?zzzN ?zzzm ?zzzz (fun zzDq zzhq zzFq zzNq zzl1 => ?_); (case zzzF => k_asm); (case zzzN => k_asm); (case zzzm => k_mem); (case zzzz => omega); (try k_lt zzl1); (revert zzDq zzhq zzFq zzNq zzl1; intro _ _ _ _ _))))
  trivial
open PySem PySem.W PyProof.Rows PySem.Spec PySem.Calls PyProof.V PyProof.Rows.LCg PyProof.Rows.LCt PyProof.Rows.LCp
set_option maxRecDepth 100000
set_option maxHeartbeats 1000000
/-- a pair's datum, opened -/
theorem pair_open {r : List (Addr × Obj)} {v : Value} {a b : Dat} (h : DatIn r v (.tuple [a, b])) : ∃ t v₁ v₂ n, v = .ref t ∧ (t, tupO #[v₁, v₂] n) ∈ r ∧ DatIn r v₁ a ∧ DatIn r v₂ b := by
  cases h with
  | tuple hm hall =>
    cases hall with
    | cons ha r1 =>
      cases r1 with
      | cons hb r2 => cases r2; exact ⟨_, _, _, _, rfl, hm, ha, hb⟩
theorem list_open {r : List (Addr × Obj)} {v : Value} {ds : List Dat} (h : DatIn r v (.list ds)) : ∃ t vs n, v = .ref t ∧ (t, W.listOf (List.toArray vs) n) ∈ r ∧ DatAll r vs ds := by
  cases h with
  | list hm hall => exact ⟨_, _, _, rfl, hm, hall⟩
section
variable {prog : Program} {w : World} {A : Around} {E : Value → Shared → Prop} {s : Shared} {h₀ : Heap} {L l : Addr} {m : Str → Option Value} {news : List (Addr × Obj)} {vs : List Value} {c : Nat}
theorem Fresh.lt {d : Addr} {o : Obj} {led : List (Addr × Obj)} (h : AllLt d led) : Fresh [(d, o)] led := fun q hq p hp => by rw [List.mem_singleton.mp hq]; exact Nat.ne_of_lt (ltOf h p hp)
theorem Fresh.cons {d : Addr} {o : Obj} {nw r : List (Addr × Obj)} (h : AllLt d (nw ++ r)) (k : Fresh nw r) : Fresh ((d, o) :: nw) r := fun q hq p hp => by
  rcases List.mem_cons.mp hq with rfl | hq
  · exact Nat.ne_of_lt (ltOf h p (List.mem_append_right _ hp))
  · exact k q hq p hp
theorem Fresh.off {d : Addr} {o : Obj} {nw r : List (Addr × Obj)} (h : Off1 d (nw ++ r)) (k : Fresh nw r) : Fresh ((d, o) :: nw) r := fun q hq p hp => by
  rcases List.mem_cons.mp hq with rfl | hq
  · exact off1 h p (List.mem_append_right _ hp)
  · exact k q hq p hp
end
section
variable {w : World} {mean : ExcName → Option Value} {mg mb : Str → Option Value} {dp un : Nat} {gd : Option (List Code)} {cn : Str} {cs : Scope} {a : Addr} {ccd : Value} {cl : List (Str × Addr)} {outer : List Env} {A₀ : Around} {base h₀ : Heap} {L : Addr} {m : Str → Option Value} {s : Shared} {Q E : Value → Shared → Prop}
  {r fz : List (Addr × Obj)} {v : Value} {ps : List Dat} {pr : Dat}
theorem told_alt_c (C : Cx w mean mg mb dp un cs A₀ base outer h₀ 6) (F : Fr h₀ L s.heap m) (N : News h₀ L s.heap r) (hs : ∀ p ∈ fz, p ∈ r) (hd : DatIn fz v (.tuple [.list ps, pr])) (hps : ∀ p ∈ ps, ∃ a b, p = .tuple [a, b]) (hlen : ps.length < 900)
  (ret : ∀ h' tk' nw v', Fr h₀ L h' m → News h₀ L h' (nw ++ r) → Fresh nw r → DatIn (nw ++ fz) v' (.tuple [.tuple ps, pr]) → Q v' { s with heap := h', toks := tk' }) :
  wpAny (model PG w) (ktrTop dp un gd cn cs L a ccd cl outer) (call (.ref 158) [v]) Q E s := by
  obtain ⟨B, X, T, hk, hd0, hu⟩ := C
  have hMk := kstMark
  obtain ⟨t, vl, vp, nt, rfl, ht, hl, hp⟩ := pair_open hd
  obtain ⟨pa, vs, c, rfl, hm, hall⟩ := list_open hl
  have ht' := hs _ ht
  have hm' := hs _ hm
  have hhp := hp.handed
  refine wpAny_call ?_
  k_dflt ktr_enter
  (repeat' ((fail_if_success (with_reducible show wpAny _ _ (eval (PySem.Expr.ListComp _ _ _ _) _) _ _ _)); (fail_if_success (with_reducible show CompSrc _ _ _ _ _ _ _ _ _ _ _ _ _ _)); (fail_if_success (with_reducible show SrcLP _ _ _ _ _ _ _ _ _ _ _ _ _ _ _)); (fail_if_success (with_reducible show EltPost _ _ _ _ _ _ _ _ _)); first | (k_unfold; (try dsimp only)) | (k_end; kc_close) | walk1 | (dsimp only; walk1) | (leave1; walk_say "STEP leave1"; (try dsimp only)) | fail "no step"))
  refine LCg.ListComp_U (F₀ := by k_asm) (by rfl) (by decide) (by rfl) (by decide) (by rfl) ?_
  (repeat' ((fail_if_success (with_reducible show wpAny _ _ (eval (PySem.Expr.ListComp _ _ _ _) _) _ _ _)); (fail_if_success (with_reducible show CompSrc _ _ _ _ _ _ _ _ _ _ _ _ _ _)); (fail_if_success (with_reducible show SrcLP _ _ _ _ _ _ _ _ _ _ _ _ _ _ _)); (fail_if_success (with_reducible show EltPost _ _ _ _ _ _ _ _ _)); first | (k_unfold; (try dsimp only)) | (k_end; kc_close) | walk1 | (dsimp only; walk1) | (leave1; walk_say "STEP leave1"; (try dsimp only)) | fail "no step"))
  refine' srcU rfl ?zF ?zN hs hm' hall (by omega) (fun d => d) (fun d v nw I oI C oC D ys m₂ h tk E' hdm hdv hfr hoC hx F2 N2 hoff hne3 => ?_) (fun nw ys g hfr hys => ?_)
  case zF => k_asm
  case zN => k_asm
  · obtain ⟨da, db, rfl⟩ := hps d hdm
    obtain ⟨tp, v₁, v₂, n2, rfl, htp, h1, h2⟩ := pair_open hdv
    have htp2 := List.mem_append_right nw (hs _ htp)
    have hh1 := h1.handed
    have hh2 := h2.handed
    (repeat' ((fail_if_success (with_reducible show wpAny _ _ (eval (PySem.Expr.ListComp _ _ _ _) _) _ _ _)); (fail_if_success (with_reducible show CompSrc _ _ _ _ _ _ _ _ _ _ _ _ _ _)); (fail_if_success (with_reducible show SrcLP _ _ _ _ _ _ _ _ _ _ _ _ _ _ _)); (fail_if_success (with_reducible show EltPost _ _ _ _ _ _ _ _ _)); first | (k_unfold; (try dsimp only)) | (k_end; kc_close) | walk1 | (dsimp only; walk1) | (leave1; walk_say "STEP leave1"; (try dsimp only)) | fail "no step"))
    refine EltPost.mk [_] (by assumption) (by assumption) (Fresh.lt (by assumption)) (DatIn.tuple (vs := [_, _]) (.head _) (.cons (h1.mono fun p hp => ?_) (.cons (h2.mono fun p hp => ?_) .nil)))
    · exact mem_tl (List.mem_append_right nw hp)
    · exact mem_tl (List.mem_append_right nw hp)
  · unfold LCg.FinE
    intro D h' tk' F' N' o1'
    have hl := hys.length
    rw [List.length_map] at hl
    (repeat' ((fail_if_success (with_reducible show wpAny _ _ (eval (PySem.Expr.ListComp _ _ _ _) _) _ _ _)); (fail_if_success (with_reducible show CompSrc _ _ _ _ _ _ _ _ _ _ _ _ _ _)); (fail_if_success (with_reducible show SrcLP _ _ _ _ _ _ _ _ _ _ _ _ _ _ _)); (fail_if_success (with_reducible show EltPost _ _ _ _ _ _ _ _ _)); first | (k_unfold; (try dsimp only)) | (k_end; kc_close) | walk1 | (dsimp only; walk1) | (leave1; walk_say "STEP leave1"; (try dsimp only)) | fail "no step"))
    rename_i kF kN kT kX
    refine ret _ _ (_ :: _ :: (D, lst ys) :: nw) _ kF kN (Fresh.cons (by assumption) (Fresh.cons (by assumption) (Fresh.off o1' hfr))) (DatIn.tuple (vs := [_, _]) (.head _) (.cons (DatIn.tuple (.tail _ (.head _)) (?_)) (.cons (hp.mono fun p hp => ?_) .nil)))
    · rw [List.map_id'] at hys
      exact hys.mono fun p hp => mem_tl (mem_tl (mem_tl hp))
    · exact mem_tl (mem_tl (mem_tl (List.mem_append_right nw hp)))
end
end

section
theorem start_Td : True := by
  w_top off
  k_with_none
  (k_with "k_room!" => (((try simp only [depth_under_make, depth_under_kw, depth_in1, depth_deeper, depth_caller]); (try dsimp only [ktrTop]); omega)))
  (k_with "ktr_room!" => (((try simp only [depth_under_make, depth_under_kw, depth_in1, depth_deeper, depth_caller]); (try dsimp only [ktrTop]); omega)))
  (k_with "ktr_units!" => (((try simp only [units_in1, units_deeper, Around.mark_units, units_caller]); (try dsimp only [ktrTop]); omega)))
  (k_with "ktr_rel!" => (first | k_asm | exact rot1 (by k_asm) | exact rot2 (by k_asm) | exact rot3 (by k_asm)))
  (k_with "tb_rel!" => (first | k_asm | exact fun _ h => h | (intro p hp; k_mem)))
  (k_with "size_fits!" => (((try simp only [List.size_toArray, List.length_append, List.length_cons, List.length_nil, PySem.sizeLine_eq]); omega)))
  (k_with "call ref!" => (k_here; (try dsimp only [List.nil_append, List.cons_append]); (with_reducible show wpAny _ _ (call (Value.ref 179) _ _) _ _ _); k_dflt (refine' kind_c ?zzC ?zzF ?zzN ?zzhf ?zzR ?zzhv ?_; (case zzF => k_asm); (case zzN => ktr_rel); (case zzC => tb_start); (case zzR => k_asm); (case zzhf => tb_rel); (case zzhv => assumption); k_whole; intro _ _ _ _ _; (try k_sweep))))
  (k_with "call ref!" => (k_here; (try dsimp only [List.nil_append, List.cons_append]); (with_reducible show wpAny _ _ (call (Value.ref 186) _ _) _ _ _); k_dflt (refine' take_c ?zzC ?zzF ?zzN ?zzhne ?zzhf ?zzR ?zzhv ?_; (case zzF => k_asm); (case zzN => ktr_rel); (case zzC => tb_start); (case zzR => k_asm); (case zzhf => tb_rel); (case zzhv => assumption); (case zzhne => k_all); k_whole; intro _ _ _ _ _; (try k_sweep))))
  (k_with "call type:tuple!" => (k_here; (with_reducible show wpAny _ _ (call (Value.type _) [Value.ref _]) _ _ _); k_dflt (refine' tuple_of ?zzzF ?zzzN ?zzzm ?zzzz (fun zzDq zzhq zzFq zzNq zzl1 => ?_); (case zzzF => k_asm); (case zzzN => k_asm); (case zzzm => k_mem); (case zzzz => omega); (try k_lt zzl1); (revert zzDq zzhq zzFq zzNq zzl1; intro _ _ _ _ _))))
  (k_with "call ref!" => (k_here; (with_reducible show wpAny _ _ (call (Value.ref 158) _ _) _ _ _); k_dflt (refine' told_alt_c ?zzzC ?zzzF ?zzzN ?zzzs ?zzzd ?zzzp ?zzzl (fun _ _ _ _ _ _ _ _ => ?_); (case zzzC => tb_start); (case zzzF => k_asm); (case zzzN => k_asm); (case zzzd => assumption); (case zzzs => assumption); (case zzzp => assumption); (case zzzl => assumption))))
  trivial
open PySem PySem.W PyProof.Rows PySem.Spec PySem.Calls PyProof.V PyProof.Rows.LCg PyProof.Rows.LCt PyProof.Rows.LCp
set_option maxRecDepth 100000
set_option maxHeartbeats 1000000
noncomputable def fDecl : Dat → Dat
  | .tuple [a, .list is] => .tuple [a, .tuple is]
  | d => d
noncomputable def fAlt : Dat → Dat
  | .tuple [.list ps, pr] => .tuple [.tuple ps, pr]
  | d => d
noncomputable def fRule : Dat → Dat
  | .tuple [.tuple [h, _], .list as] => .tuple [h, .tuple (as.map fAlt)]
  | d => d
/-- a rule in its shape -/
structure OkRule (r : RuleD) : Prop where
  h : ∃ a b, r.1 = .tuple [a, b]
  n : r.2.length < 900
  p : ∀ al ∈ r.2, al.1.length < 900 ∧ ∀ p ∈ al.1, ∃ a b, p = .tuple [a, b]
theorem tup_open {r : List (Addr × Obj)} {v : Value} {ds : List Dat} (h : DatIn r v (.tuple ds)) : ∃ t vs n, v = .ref t ∧ (t, tupO (List.toArray vs) n) ∈ r ∧ DatAll r vs ds := by
  cases h with
  | tuple hm hall => exact ⟨_, _, _, rfl, hm, hall⟩
theorem step_tup {h₀ h' : Heap} {L T D : Addr} {ys : List Value} {nw r fz : List (Addr × Obj)} {es : List Dat} (N : News h₀ L h' ((T, ({ cls := .type "tuple", data := .seq ys.toArray } : Obj)) :: (D, lst ys) :: (nw ++ r))) (l : AllLt T ((D, lst ys) :: (nw ++ r))) (o : Off1 D (nw ++ r)) (hf : Fresh nw r) (hd : DatAll (nw ++ fz) ys es) :
    ∃ nw1, News h₀ L h' (nw1 ++ r) ∧ Fresh nw1 r ∧ DatIn (nw1 ++ fz) (.ref T) (.tuple es) ∧ ∀ p ∈ nw, p ∈ nw1 :=
  ⟨_ :: (D, lst ys) :: nw, N, Fresh.cons l (Fresh.off o hf), DatIn.tuple (.head _) (hd.mono fun _ hp => mem_tl (mem_tl hp)), fun _ hp => mem_tl (mem_tl hp)⟩
theorem told_end {h₀ h' : Heap} {L T T2 D : Addr} {ys : List Value} {nw2 nw1 r : List (Addr × Obj)} {es : List Dat} {v1 : Value} {d1 : Dat}
    (N : News h₀ L h' ((T, ({ cls := .type "tuple", data := .seq #[v1, .ref T2] } : Obj)) :: (T2, ({ cls := .type "tuple", data := .seq ys.toArray } : Obj)) :: (D, lst ys) :: (nw2 ++ (nw1 ++ r))))
    (l1 : AllLt T ((T2, ({ cls := .type "tuple", data := .seq ys.toArray } : Obj)) :: (D, lst ys) :: (nw2 ++ (nw1 ++ r)))) (l2 : AllLt T2 ((D, lst ys) :: (nw2 ++ (nw1 ++ r)))) (o : Off1 D (nw2 ++ (nw1 ++ r))) (f2 : Fresh nw2 (nw1 ++ r)) (f1 : Fresh nw1 r) (hd1 : DatIn (nw1 ++ r) v1 d1) (hys : DatAll (nw2 ++ (nw1 ++ r)) ys es) :
    ∃ nw, News h₀ L h' (nw ++ r) ∧ Fresh nw r ∧ DatIn (nw ++ r) (.ref T) (.tuple [d1, .tuple es]) := by
  have f : Fresh (nw2 ++ nw1) r := (f2.sub fun p hp => List.mem_append_right _ hp).app f1
  rw [← List.append_assoc] at N l1 l2 o hys
  refine ⟨_ :: _ :: (D, lst ys) :: (nw2 ++ nw1), N, Fresh.cons l1 (Fresh.cons l2 (Fresh.off o f)), DatIn.tuple (vs := [_, _]) (.head _) (.cons (hd1.mono fun p hp => ?_) (.cons (DatIn.tuple (.tail _ (.head _)) (hys.mono fun p hp => mem_tl (mem_tl (mem_tl hp)))) .nil))⟩
  show p ∈ _ :: _ :: _ :: (nw2 ++ nw1 ++ r)
  rw [List.append_assoc]
  exact mem_tl (mem_tl (mem_tl (List.mem_append_right nw2 hp)))
section
variable {w : World} {mean : ExcName → Option Value} {mg mb : Str → Option Value} {dp un : Nat} {gd : Option (List Code)} {cn : Str} {cs : Scope} {a : Addr} {ccd : Value} {cl : List (Str × Addr)} {outer : List Env} {A₀ : Around} {base h₀ : Heap} {L : Addr} {m : Str → Option Value} {s : Shared} {Q E : Value → Shared → Prop}
  {r : List (Addr × Obj)} {v : Value} {ds : List DeclD} {rs : List RuleD}
theorem told_c (C : Cx w mean mg mb dp un cs A₀ base outer h₀ 12) (F : Fr h₀ L s.heap m) (N : News h₀ L s.heap r) (hT : TreeIn r v (ds.map declD) (rs.map ruleD)) (hds : ds.length < 900) (hdi : ∀ d ∈ ds, d.2.length < 900) (hrs : rs.length < 900) (hok : ∀ x ∈ rs, OkRule x)
  (ret : ∀ h' tk' nw v', Fr h₀ L h' m → News h₀ L h' (nw ++ r) → Fresh nw r → DatIn (nw ++ r) v' (.tuple [.tuple ((ds.map declD).map fDecl), .tuple ((rs.map ruleD).map fRule)]) → Q v' { s with heap := h', toks := tk' }) :
  wpAny (model PG w) (ktrTop dp un gd cn cs L a ccd cl outer) (call (.ref 146) [v]) Q E s := by
  obtain ⟨B, X, T, hk, hd0, hu⟩ := C
  have hMk := kstMark
  obtain ⟨xt, dxt, dl, rl, h1, h2, q1, q2, rfl, hx1, hx2, hD, hR⟩ := hT
  obtain ⟨_, vsD, cD, e1, hmD, hallD⟩ := list_open hD
  obtain ⟨_, vsR, cR, e2, hmR, hallR⟩ := list_open hR
  cases e1
  cases e2
  refine wpAny_call ?_
  k_dflt ktr_enter
  (repeat' ((fail_if_success (with_reducible show wpAny _ _ (eval (PySem.Expr.ListComp _ _ _ _) _) _ _ _)); (fail_if_success (with_reducible show CompSrc _ _ _ _ _ _ _ _ _ _ _ _ _ _)); (fail_if_success (with_reducible show SrcLP _ _ _ _ _ _ _ _ _ _ _ _ _ _ _)); (fail_if_success (with_reducible show EltPost _ _ _ _ _ _ _ _ _)); first | (k_unfold; (try dsimp only)) | (k_end; kc_close) | walk1 | (dsimp only; walk1) | (leave1; walk_say "STEP leave1"; (try dsimp only)) | fail "no step"))
  refine LCp.ListComp_P (F₀ := by k_asm) (by with_unfolding_all rfl) (by decide) (by rfl) (by decide) (by rfl) (by rfl) (by decide) ?_
  (repeat' ((fail_if_success (with_reducible show wpAny _ _ (eval (PySem.Expr.ListComp _ _ _ _) _) _ _ _)); (fail_if_success (with_reducible show CompSrc _ _ _ _ _ _ _ _ _ _ _ _ _ _)); (fail_if_success (with_reducible show SrcLP _ _ _ _ _ _ _ _ _ _ _ _ _ _ _)); (fail_if_success (with_reducible show EltPost _ _ _ _ _ _ _ _ _)); first | (k_unfold; (try dsimp only)) | (k_end; kc_close) | walk1 | (dsimp only; walk1) | (leave1; walk_say "STEP leave1"; (try dsimp only)) | fail "no step"))
  refine' srcP rfl ?zF ?zN (fun _ h => h) hmD hallD (by rw [List.length_map]; omega) (fun d hd => by obtain ⟨x, _, rfl⟩ := List.mem_map.mp hd; exact ⟨_, _, rfl⟩) fDecl (fun da db v₁ v₂ nw I oI C oC D ys m₂ h tk E' hdm hv1 hv2 hfr hoC hxa hxb F2 N2 hoff hne3 => ?_) (fun nw ys g hfr hys => ?_)
  case zF => k_asm
  case zN => k_asm
  · obtain ⟨⟨x1, x2⟩, hxm, e⟩ := List.mem_map.mp hdm
    cases e
    have hlx := hdi _ hxm
    obtain ⟨ti, vsi, ci, rfl, hmi, hai⟩ := list_open hv2
    have hmi2 := List.mem_append_right nw hmi
    have hh1 := hv1.handed
    have hli := hai.length
    (repeat' ((fail_if_success (with_reducible show wpAny _ _ (eval (PySem.Expr.ListComp _ _ _ _) _) _ _ _)); (fail_if_success (with_reducible show CompSrc _ _ _ _ _ _ _ _ _ _ _ _ _ _)); (fail_if_success (with_reducible show SrcLP _ _ _ _ _ _ _ _ _ _ _ _ _ _ _)); (fail_if_success (with_reducible show EltPost _ _ _ _ _ _ _ _ _)); first | (k_unfold; (try dsimp only)) | (k_end; kc_close) | walk1 | (dsimp only; walk1) | (leave1; walk_say "STEP leave1"; (try dsimp only)) | fail "no step"))
    refine EltPost.mk [_, _] (by assumption) (by assumption) (Fresh.cons (by assumption) (Fresh.lt (by assumption))) (DatIn.tuple (vs := [_, _]) (.head _) (.cons (hv1.mono fun p hp => ?_) (.cons (DatIn.tuple (.tail _ (.head _)) (hai.mono fun p hp => ?_)) .nil)))
    · exact mem_tl (mem_tl (List.mem_append_right nw hp))
    · exact mem_tl (mem_tl (List.mem_append_right nw hp))
  · unfold LCg.FinE
    intro D h' tk' F' N' o1'
    have hl := hys.length
    rw [List.length_map, List.length_map] at hl
    (repeat' ((fail_if_success (with_reducible show wpAny _ _ (eval (PySem.Expr.ListComp _ _ _ _) _) _ _ _)); (fail_if_success (with_reducible show CompSrc _ _ _ _ _ _ _ _ _ _ _ _ _ _)); (fail_if_success (with_reducible show SrcLP _ _ _ _ _ _ _ _ _ _ _ _ _ _ _)); (fail_if_success (with_reducible show EltPost _ _ _ _ _ _ _ _ _)); first | (k_unfold; (try dsimp only)) | (k_end; kc_close) | walk1 | (dsimp only; walk1) | (leave1; walk_say "STEP leave1"; (try dsimp only)) | fail "no step"))
    obtain ⟨nw1, N1, hfr1, hd1, _⟩ := step_tup (by assumption) (by assumption) o1' hfr hys
    have hx1' := List.mem_append_right nw1 hx1
    have hx2' := List.mem_append_right nw1 hx2
    refine LCp.ListComp_P (F₀ := by k_asm) (by with_unfolding_all rfl) (by decide) (by rfl) (by decide) (by rfl) (by rfl) (by decide) ?_
    (repeat' ((fail_if_success (with_reducible show wpAny _ _ (eval (PySem.Expr.ListComp _ _ _ _) _) _ _ _)); (fail_if_success (with_reducible show CompSrc _ _ _ _ _ _ _ _ _ _ _ _ _ _)); (fail_if_success (with_reducible show SrcLP _ _ _ _ _ _ _ _ _ _ _ _ _ _ _)); (fail_if_success (with_reducible show EltPost _ _ _ _ _ _ _ _ _)); first | (k_unfold; (try dsimp only)) | (k_end; kc_close) | walk1 | (dsimp only; walk1) | (leave1; walk_say "STEP leave1"; (try dsimp only)) | fail "no step"))
    refine' srcP rfl ?zF ?zN (fun _ h => h) (List.mem_append_right nw1 hmR) (hallR.mono fun p hp => List.mem_append_right nw1 hp) (by rw [List.length_map]; omega) (fun d hd => by obtain ⟨x, _, rfl⟩ := List.mem_map.mp hd; exact ⟨_, _, rfl⟩) fRule (fun da db v₁ v₂ nw2 I oI C oC D ys m₂ h tk E' hdm hv1 hv2 hfr2 hoC hxa hxb F2 N2 hoff hne3 => ?_) (fun nw2 ys g hfr2 hys2 => ?_)
    case zF => k_asm
    case zN => k_asm
    · obtain ⟨⟨x1, x2⟩, hxm, e⟩ := List.mem_map.mp hdm
      cases e
      obtain ⟨⟨ha, hb, hab⟩, hn, hp⟩ := hok _ hxm
      dsimp only at hab hn hp
      subst hab
      obtain ⟨th, vh, vn, ch, rfl, hth, hva, hvb⟩ := pair_open hv1
      obtain ⟨ta, vsa, ca, rfl, hma, haa⟩ := list_open hv2
      have hth2 := List.mem_append_right nw2 hth
      have hma2 := List.mem_append_right nw2 hma
      have hh1 := hva.handed
      (repeat' ((fail_if_success (with_reducible show wpAny _ _ (eval (PySem.Expr.ListComp _ _ _ _) _) _ _ _)); (fail_if_success (with_reducible show CompSrc _ _ _ _ _ _ _ _ _ _ _ _ _ _)); (fail_if_success (with_reducible show SrcLP _ _ _ _ _ _ _ _ _ _ _ _ _ _ _)); (fail_if_success (with_reducible show EltPost _ _ _ _ _ _ _ _ _)); first | (k_unfold; (try dsimp only)) | (k_end; kc_close) | walk1 | (dsimp only; walk1) | (leave1; walk_say "STEP leave1"; (try dsimp only)) | fail "no step"))
      refine LCg.ListComp_U (F₀ := by k_asm) (by with_unfolding_all rfl) (by decide) (by rfl) (by decide) (by rfl) ?_
      (repeat' ((fail_if_success (with_reducible show wpAny _ _ (eval (PySem.Expr.ListComp _ _ _ _) _) _ _ _)); (fail_if_success (with_reducible show CompSrc _ _ _ _ _ _ _ _ _ _ _ _ _ _)); (fail_if_success (with_reducible show SrcLP _ _ _ _ _ _ _ _ _ _ _ _ _ _ _)); (fail_if_success (with_reducible show EltPost _ _ _ _ _ _ _ _ _)); first | (k_unfold; (try dsimp only)) | (k_end; kc_close) | walk1 | (dsimp only; walk1) | (leave1; walk_say "STEP leave1"; (try dsimp only)) | fail "no step"))
      have hsb : ∀ p ∈ nw2 ++ (nw1 ++ r), p ∈ (I, oI) :: (C, oC) :: (D, lst ys) :: (nw2 ++ (nw1 ++ r)) := fun p hp => mem_tl (mem_tl (mem_tl hp))
      refine' srcU rfl ?zF ?zN hsb (hsb _ hma2) (haa.mono fun p hp => List.mem_append_right nw2 hp) (by rw [List.length_map]; exact Nat.lt_of_lt_of_le hn (by decide)) fAlt (fun d3 v3 nw3 I3 oI3 C3 oC3 D3 ys3 m3 h3 tk3 E3 hdm3 hv3 hfr3 hoC3 hx3 F3 N3 hoff3 hne33 => ?_) (fun nw3 ys3 g3 hfr3 hys3 => ?_)
      case zF => k_asm
      case zN => k_asm
      · obtain ⟨⟨ps3, q3⟩, hxm3, e⟩ := List.mem_map.mp hdm3
        subst e
        obtain ⟨hl3, hp3⟩ := hp _ hxm3
        dsimp only at hl3 hp3
        have hd3 : DatIn (nw3 ++ (nw2 ++ (nw1 ++ r))) v3 (.tuple [.list ps3, q3.headD (.str (S ""))]) := hv3.mono fun p hp => List.mem_append_right nw3 hp
        have hs3 : ∀ p ∈ nw3 ++ (nw2 ++ (nw1 ++ r)), p ∈ (I3, oI3) :: (C3, oC3) :: (D3, lst ys3) :: (nw3 ++ ((I, oI) :: (C, oC) :: (D, lst ys) :: (nw2 ++ (nw1 ++ r)))) := fun p hp => mem_tl (mem_tl (mem_tl ((List.mem_append.mp hp).elim (fun h => List.mem_append_left _ h) fun h => List.mem_append_right _ (hsb p h))))
        (repeat' ((fail_if_success (with_reducible show wpAny _ _ (eval (PySem.Expr.ListComp _ _ _ _) _) _ _ _)); (fail_if_success (with_reducible show CompSrc _ _ _ _ _ _ _ _ _ _ _ _ _ _)); (fail_if_success (with_reducible show SrcLP _ _ _ _ _ _ _ _ _ _ _ _ _ _ _)); (fail_if_success (with_reducible show EltPost _ _ _ _ _ _ _ _ _)); first | (k_unfold; (try dsimp only)) | (k_end; kc_close) | walk1 | (dsimp only; walk1) | (leave1; walk_say "STEP leave1"; (try dsimp only)) | fail "no step"))
        exact EltPost.mk _ (by assumption) (by assumption) (by assumption) (by assumption)
      · unfold LCg.FinE
        intro D3 h3 tk3 F3 N3 o3
        have hl3 := hys3.length
        rw [List.length_map, List.length_map] at hl3
        have hn2 : ys3.length < 1000 := by rw [hl3]; exact Nat.lt_of_lt_of_le hn (by decide)
        (repeat' ((fail_if_success (with_reducible show wpAny _ _ (eval (PySem.Expr.ListComp _ _ _ _) _) _ _ _)); (fail_if_success (with_reducible show CompSrc _ _ _ _ _ _ _ _ _ _ _ _ _ _)); (fail_if_success (with_reducible show SrcLP _ _ _ _ _ _ _ _ _ _ _ _ _ _ _)); (fail_if_success (with_reducible show EltPost _ _ _ _ _ _ _ _ _)); first | (k_unfold; (try dsimp only)) | (k_end; kc_close) | walk1 | (dsimp only; walk1) | (leave1; walk_say "STEP leave1"; (try dsimp only)) | fail "no step"))
        refine EltPost.mk (_ :: _ :: (D3, lst ys3) :: nw3) (by assumption) (by assumption) (Fresh.cons (by assumption) (Fresh.cons (by assumption) (Fresh.off o3 hfr3))) (DatIn.tuple (vs := [_, _]) (.head _) (.cons (hva.mono fun p hp => ?_) (.cons (DatIn.tuple (.tail _ (.head _)) (hys3.mono fun p hp => ?_)) .nil)))
        · exact mem_tl (mem_tl (mem_tl (List.mem_append_right nw3 (List.mem_append_right nw2 hp))))
        · exact mem_tl (mem_tl (mem_tl hp))
    · unfold LCg.FinE
      intro D h' tk' F' N' o1'
      have hl := hys2.length
      rw [List.length_map, List.length_map] at hl
      (repeat' ((fail_if_success (with_reducible show wpAny _ _ (eval (PySem.Expr.ListComp _ _ _ _) _) _ _ _)); (fail_if_success (with_reducible show CompSrc _ _ _ _ _ _ _ _ _ _ _ _ _ _)); (fail_if_success (with_reducible show SrcLP _ _ _ _ _ _ _ _ _ _ _ _ _ _ _)); (fail_if_success (with_reducible show EltPost _ _ _ _ _ _ _ _ _)); first | (k_unfold; (try dsimp only)) | (k_end; kc_close) | walk1 | (dsimp only; walk1) | (leave1; walk_say "STEP leave1"; (try dsimp only)) | fail "no step"))
      rename_i kF kN kT kX
      obtain ⟨nw9, n1, n2, n3⟩ := told_end kN (by assumption) (by assumption) o1' hfr2 hfr1 hd1 hys2
      exact ret _ _ nw9 _ kF n1 n2 n3
end
end

section
theorem start_Ct : True := by
  w_top off
  k_with_none
  (k_with "k_room!" => (((try simp only [depth_under_make, depth_under_kw, depth_in1, depth_deeper, depth_caller]); (try dsimp only [ktrTop]); omega)))
  (k_with "ktr_room!" => (((try simp only [depth_under_make, depth_under_kw, depth_in1, depth_deeper, depth_caller]); (try dsimp only [ktrTop]); omega)))
  (k_with "ktr_units!" => (((try simp only [units_in1, units_deeper, Around.mark_units, units_caller]); (try dsimp only [ktrTop]); omega)))
  (k_with "ktr_rel!" => (first | k_asm | exact rot1 (by k_asm) | exact rot2 (by k_asm) | exact rot3 (by k_asm)))
  (k_with "tb_rel!" => (first | k_asm | exact fun _ h => h | (intro p hp; k_mem)))
  (k_with "size_fits!" => (((try simp only [List.size_toArray, List.length_append, List.length_cons, List.length_nil, PySem.sizeLine_eq]); omega)))
  trivial
open PySem PySem.W PyProof.Rows PySem.Spec PySem.Calls
set_option maxRecDepth 100000
section
variable {prog : Program} {w : World} {A₀ : Around} {E : Value → Shared → Prop} {s' : Shared} {h₀ h : Heap} {outer : List Env} {L a e d : Addr} {m : Str → Option Value} {name : Str} {scope : Scope} {cd : Value} {cells : List (Str × Addr)}
  {n x : Str} {b₀ : Stmt} {suite : List Stmt} {pos np : Pos} {rest : List ExceptHandler} {Q : Flow → Shared → Prop} {news : List (Addr × Obj)} {p : Program} {loose : List Str} {mean : ExcName → Option Value} {mg mb : Str → Option Value} {KF : Frag}
theorem caught_X (K : Below A₀ h₀ outer h₀) (F : Fr h₀ L h m) (hsm : h.UpToSlots s'.heap) (R : RaisedX h₀ (envX name scope L a cd cells :: outer) e d news s'.heap)
    (X : KF.In h₀) (Xe : (Mine.K0 w.params).In h₀) (T : TopRead p loose mg mb h₀) (ex : nsIn KF mainGlobals x = some (some (.ref 87)))
    (k : ∀ h' oe tk, Fr h₀ L h' (fun y => if y = n then some (.ref e) else m y) → News h₀ L h' ((e, oe) :: news) → oe.cls = .ref 87 → oe.dict = some d → notCls oe = true →
      wpAny (model prog w) ((A₀.deeper (envX name scope L a cd cells)).mark (some (.ref e))) (execs (b₀ :: suite) (envX name scope L a cd cells))
        (fun f s₄ => wpAny (model prog w) (A₀.deeper (envX name scope L a cd cells)) (do bindName (envX name scope L a cd cells) n .none; unbindBehindTheSuite (envX name scope L a cd cells) n pos) (fun _ s₅ => Q f s₅) E s₄)
        (AsSuiteRaised (model prog w) ((A₀.deeper (envX name scope L a cd cells)).mark (some (.ref e))) (envX name scope L a cd cells) n pos (notedBy (model prog w) ((A₀.deeper (envX name scope L a cd cells)).mark (some (.ref e))) (envX name scope L a cd cells) (cameBackBy (model prog w) (A₀.deeper (envX name scope L a cd cells)) (envX name scope L a cd cells) E)))
        { s' with heap := h', toks := tk })
    (hk : scope.kind = .function := by rfl) (hlo : (envX name scope L a cd cells).kindOf n = some .local := by rfl) (hx : (envX name scope L a cd cells).kindOf x = some .globalImplicit := by rfl) (hdb : (x == ("__debug__" : Str)) = false := by decide) :
    wpAny (model prog w) (A₀.deeper (envX name scope L a cd cells)) (noteFrame (.ref e) (envX name scope L a cd cells))
      (fun _ s₂ => wpAny (model prog w) (A₀.deeper (envX name scope L a cd cells)) (setFlight (.ref e) none) (fun _ s₃ =>
        wpAny (model prog w) (A₀.deeper (envX name scope L a cd cells)) (handleBy (.ref e) (envX name scope L a cd cells) (.ExceptHandler (some (.Name x np)) (some n) (b₀ :: suite) pos :: rest)) Q E s₃) E s₂) E s' := by
  obtain ⟨⟨B, a0, hB, hl, hfl⟩, oe0, ho0, hd0⟩ := R
  have hL : B.get? L = none := by
    obtain ⟨_, ⟨L', _, hf, hn', _⟩, _⟩ := hfl.2.2.1
    obtain rfl : L = L' := Option.some.inj hf
    exact hn'
  have b1 : wpAny (model prog w) (A₀.deeper (envX name scope L a cd cells)) (noteFrame (.ref e) (envX name scope L a cd cells)) (fun _ s₂ => ∃ h', s₂ = { s' with heap := h' } ∧ Heap.HeldW B (envX name scope L a cd cells :: outer) e (.ref 87) a0 L h' ∧ s'.heap.UpToSlots h') E s' :=
    wpAny_looks_onW (Around.frames_deeper K.stack) rfl hfl fun h₄ hheld₄ hsm₄ => ⟨h₄, rfl, hheld₄, hsm₄⟩
  refine wpAny_mono (kd_any (kd_noteFrame _ _) b1) (fun _ s₂ q => ?_) fun _ _ e => e
  obtain ⟨⟨h₄, rfl, hheld₄, hsm₄⟩, dk1⟩ := q
  have b2 : wpAny (model prog w) (A₀.deeper (envX name scope L a cd cells)) (setFlight (.ref e) none) (fun _ s₂ => ∃ h', s₂ = { s' with heap := h' } ∧ Heap.FlyingW B (envX name scope L a cd cells :: outer) e (.ref 87) a0 h' ∧ h₄.UpToSlots h') E { s' with heap := h₄ } :=
    wpAny_landsW hheld₄ fun h₅ hheld hsm₅ => ⟨h₅, rfl, hheld, hsm₅⟩
  refine wpAny_mono (kd_any (kd_setFlight _ _) b2) (fun _ s₂ q => ?_) fun _ _ e => e
  obtain ⟨⟨h₅, rfl, hheld, hsm₅'⟩, dk2⟩ := q
  have hsm₅ := hsm₄.trans hsm₅'
  have hheld' := flyingW_base hB hheld
  have F₅ := F.of_stays hheld'.1 (hsm.trans hsm₅)
  obtain ⟨ob, hob, hobc⟩ := hheld'.there
  refine wpAny_handleBy_cons (codeAny_handlers_test (Calls.Name_function_global hk hx (Calls.loadGlobal_global (env := envX name scope L a cd cells) (T.g.keeps F₅.keep) (mg_of X T.g ex) ?_) hdb)) (by intro q; cases q)
  obtain ⟨nm, q, N, bs, hdct, sn, sub, ab, col, dd, k0, k1, k2, k3, k5, hC⟩ := errCls_of (Xe.keeps F₅.keep)
  refine wpAny_excMatches_sub_self hC hob hobc (by decide) (codeAny_handlers_suite_as ?_)
  have b3 : wpAny (model prog w) ((A₀.deeper (envX name scope L a cd cells)).mark (some (.ref e))) (setFlight (.ref e) none) (fun _ s₂ => ∃ h', s₂ = { s' with heap := h' } ∧ Heap.FlyingW B (envX name scope L a cd cells :: outer) e (.ref 87) a0 h' ∧ h₅.UpToSlots h')
      (notedBy (model prog w) ((A₀.deeper (envX name scope L a cd cells)).mark (some (.ref e))) (envX name scope L a cd cells) (cameBackBy (model prog w) (A₀.deeper (envX name scope L a cd cells)) (envX name scope L a cd cells) E)) { s' with heap := h₅ } :=
    lands_againW hheld fun h₆ hfl₆ hsm₆ => ⟨h₆, rfl, hfl₆, hsm₆⟩
  refine wpAny_mono (kd_any (kd_setFlight _ _) b3) (fun _ s₂ q => ?_) fun _ _ e => e
  obtain ⟨⟨h₆, rfl, hfl₆, hsm₆⟩, dk3⟩ := q
  have hfl₆' := flyingW_base hB hfl₆
  have F₆ := F.of_stays hfl₆'.1 ((hsm.trans hsm₅).trans hsm₆)
  obtain ⟨oe, ws, hoe, hoec, hoed, hoe0⟩ := hfl₆'.first
  have hdict : oe.dict = some d := by
    obtain ⟨o1, e1, q1⟩ := dk1 e _ ho0
    obtain ⟨o2, e2, q2⟩ := dk2 e _ e1
    obtain ⟨o3, e3, q3⟩ := dk3 e _ e2
    have e3' : h₆.get? e = some o3 := e3
    rw [hoe] at e3'
    cases e3'
    rw [q3, q2, q1, hd0]
  have N₆ := News.more F₆ News.nil hoe (fun es n q => by rw [hoed] at q; cases q) hfl₆'.2.1
  have Nl : News h₀ L h₆ ((e, oe) :: news) := fun q hq => by
    rcases List.mem_cons.mp hq with rfl | hq
    · exact N₆ _ (.head _)
    · exact ⟨hfl₆.1 _ _ (hl q hq).1, (fun z => by have := (hl q hq).1; rw [z, hL] at this; cases this), (hl q hq).2⟩
  refine wpAny_storeName_local hlo F₆.ns (fun h' hn hs => k h' oe _ (F₆.set hn hs) (Nl.set hs) hoec hdict (by unfold notCls; rw [hoed])) ?_
  show (scope.kind == .class || (scope.kind == .module && L != mainGlobals)) = false
  rw [hk]; rfl
theorem exc_at {K : Frag} {A : Around} {s : Shared} {oe od : Obj} {cd : ClassData} {nm : Str} {expr : Bool} {v : Value} {E Q : Value → Shared → Prop} (X : K.In s.heap) (he : s.heap.get? e = some oe) (hcl : oe.cls = .ref 87) (hno : notCls oe = true) (hdc : oe.dict = some d) (hd : s.heap.get? d = some od)
    (hga : findIn K (.ref 87) "__getattribute__" = some (some (.builtin "BaseException.__getattribute__"))) (hgt : findIn K (.ref 87) "__getattr__" = some none) (hb : mroIn K 87 (.type "BaseException") = some true)
    (hc : clsIn K 87 = some cd) (hdi : cd.hasDict = true) (ht : findIn K (.ref 87) nm = some none) (hl : lookIn nm od = some (some v)) (hh : handedIn v = true) (h : Q v { s with toks := s.toks + 1 }) : wpAny (model prog w) A (getAttr (.ref e) nm expr) Q E s := by
  refine exc_get (C := 87) (od := some od) X ⟨he, hcl, hno, by rw [hdc]; exact hd⟩ hga hgt hb ?_ hh h
  unfold findObj
  rw [hc, Option.bind_some, ht, Option.bind_some]
  simp only [Option.bind_some]
  rw [W.ownOf, if_pos hdi]
  rw [hl]
  rfl
theorem name_goesX {M : Model} {A : Around} {s : Shared} {Q : Unit → Shared → Prop} {E : Value → Shared → Prop} (F : Fr h₀ L s.heap m) (N : News h₀ L s.heap news)
    (h : ∀ h' v, Fr h₀ L h' (fun x => if x = n then v else m x) → News h₀ L h' news → Q () { s with heap := h', toks := s.toks + 1 })
    (hk : scope.kind = .function := by rfl) (hl : (envX name scope L a cd cells).kindOf n = some .local := by rfl) :
    wpAny M A (do bindName (envX name scope L a cd cells) n .none; unbindBehindTheSuite (envX name scope L a cd cells) n pos) Q E s :=
  wpAny_nameGoes_keeps hl F.ns (by show (scope.kind == .class || (scope.kind == .module && L != mainGlobals)) = false; rw [hk]; rfl) fun h' v hn hs => h h' v (F.set hn hs) (N.set hs)
end
theorem err_at {w : World} {A : Around} {s : Shared} {e d : Addr} {oe : Obj} {expr : Bool} {E Q : Value → Shared → Prop} {h1 h2 : Int} {q1 q2 : Tok} {v1 : Value} {px : Addr} (X : (Mine.K0 w.params).In s.heap) (he : s.heap.get? e = some oe) (hcl : oe.cls = .ref 87) (hno : notCls oe = true) (hdc : oe.dict = some d)
    (hd : s.heap.get? d = some (dictOf [⟨h1, .str (Str.ofString "what") q1, v1⟩, ⟨h2, .str (Str.ofString "at") q2, .ref px⟩] 2)) (h : Q (.ref px) { s with toks := s.toks + 1 }) : wpAny (model PG w) A (getAttr (.ref e) (Str.ofString "at") expr) Q E s := by
  refine' exc_at X he hcl hno hdc hd ?a ?b ?c ?d ?e ?f ?g ?h h
  case a => k_is
  case b => k_is
  case c => k_is
  case d => k_is
  case e => rfl
  case f => k_is
  case g => rfl
  case h => rfl
end

section
theorem start_Ts : True := by
  w_top off
  k_with_none
  (k_with "k_room!" => (((try simp only [depth_under_make, depth_under_kw, depth_in1, depth_deeper, depth_caller]); (try dsimp only [ktrTop]); omega)))
  (k_with "ktr_room!" => (((try simp only [depth_under_make, depth_under_kw, depth_in1, depth_deeper, depth_caller]); (try dsimp only [ktrTop]); omega)))
  (k_with "ktr_units!" => (((try simp only [units_in1, units_deeper, Around.mark_units, units_caller]); (try dsimp only [ktrTop]); omega)))
  (k_with "ktr_rel!" => (first | k_asm | exact rot1 (by k_asm) | exact rot2 (by k_asm) | exact rot3 (by k_asm)))
  (k_with "tb_rel!" => (first | k_asm | exact fun _ h => h | (intro p hp; k_mem)))
  (k_with "size_fits!" => (((try simp only [List.size_toArray, List.length_append, List.length_cons, List.length_nil, PySem.sizeLine_eq]); omega)))
  trivial
open PySem PySem.W PyProof.Rows PySem.Spec PySem.Calls PyProof.V PyProof.Rows.LCg PyProof.Rows.LCt PyProof.Rows.LCp
set_option maxRecDepth 100000
/-- the tokens of the first places -/
structure TokS (nw : List (Addr × Obj)) (ys : List Value) (toks : List Tk) : Prop where
  l : toks.length = ys.length
  t : ∀ (k : Nat) (t : Tk), toks[k]? = some t → (∃ v, ys[k]? = some v ∧ TokIn nw v t.1 t.2.1 (7 * (k : Int))) ∧ DatIn nw t.2.1 t.2.2 ∧ t.2.2 = worthD t.1 k
theorem TokS.nil {nw : List (Addr × Obj)} : TokS nw [] [] := ⟨rfl, fun _ _ h => by cases h⟩
theorem TokS.snoc {nw nw' : List (Addr × Obj)} {ys : List Value} {toks : List Tk} {y wv : Value} {kd : Str} (h : TokS nw ys toks) (ht : TokIn nw' y kd wv (7 * (ys.length : Int))) (hd : DatIn nw' wv (worthD kd ys.length)) : TokS (nw' ++ nw) (ys ++ [y]) (toks ++ [(kd, wv, worthD kd ys.length)]) := by
  refine ⟨by rw [List.length_append, List.length_append, h.l]; rfl, fun k t hk => ?_⟩
  by_cases hlt : k < toks.length
  · rw [List.getElem?_append_left hlt] at hk
    obtain ⟨⟨v, h1, h2⟩, h3, h4⟩ := h.t k t hk
    exact ⟨⟨v, by rw [List.getElem?_append_left (by rw [← h.l]; exact hlt)]; exact h1, h2.mono fun p hp => List.mem_append_right _ hp⟩, h3.mono fun p hp => List.mem_append_right _ hp, h4⟩
  · have hk2 : k = toks.length := by
      have := (List.getElem?_eq_some_iff.mp hk).1
      rw [List.length_append, List.length_singleton] at this
      omega
    subst hk2
    rw [List.getElem?_append_right (Nat.le_refl _), Nat.sub_self] at hk
    cases hk
    rw [h.l]
    exact ⟨⟨y, by rw [List.getElem?_append_right (Nat.le_refl _), Nat.sub_self]; rfl, ht.mono fun p hp => List.mem_append_left _ hp⟩, hd.mono fun p hp => List.mem_append_left _ hp, rfl⟩
noncomputable def JT (r1 : List (Addr × Obj)) (ks : List (Str × Tok)) (i : Nat) (ys : List Value) (news : List (Addr × Obj)) : Prop :=
  ∃ nw toks, news = nw ++ r1 ∧ Fresh nw r1 ∧ ys.length = i ∧ TokS nw ys toks ∧ toks.map (·.1) = (ks.map (·.1)).take i
noncomputable def TokPost (h₀ : Heap) (L : Addr) (m : Str → Option Value) (s₁ : Shared) (led : List (Addr × Obj)) (kd : Str) (i : Nat) (y : Value) (s₂ : Shared) : Prop :=
  ∃ h' tk nw wv, s₂ = { s₁ with heap := h', toks := tk } ∧ Fr h₀ L h' m ∧ News h₀ L h' (nw ++ led) ∧ Fresh nw led ∧ TokIn nw y kd wv (7 * (i : Int)) ∧ DatIn nw wv (worthD kd i)
section
variable {prog : Program} {w : World} {A : Around} {E : Value → Shared → Prop} {s : Shared} {h₀ : Heap} {L : Addr} {m : Str → Option Value} {env : Env} {r1 : List (Addr × Obj)} {ks : List (Str × Tok)}
theorem srcT {elt : PySem.Expr} {x : Str} {scope : Scope} {cl : List (Str × Addr)} {Fin : Shared → List Value → List (Addr × Obj) → Prop} {rg : Addr} {t u v : Tok} (hh : A.handled = none) (F : Fr h₀ L s.heap m) (N : News h₀ L s.heap r1) (hr : IsRange s.heap rg 0 (ks.length : Int) 1 t u v) (hlen : ks.length < 100)
    (elem : ∀ i kd tkd t I oI C oC D ys nw m₂ h tk (E' : Value → Shared → Prop), i < ks.length → (strsV ks)[i]? = some (.str kd tkd) → Fresh nw r1 → NsObj oC m₂ → m₂ x = some (.int (i : Int) t) → Fr h₀ L h m → News h₀ L h ((I, oI) :: (C, oC) :: (D, lst ys) :: (nw ++ r1)) → Off3 I C D (nw ++ r1) → ((@Ne Nat I C) ∧ (@Ne Nat I D) ∧ (@Ne Nat C D)) →
      wpAny (model prog w) A (eval elt (compEnvC scope cl C env)) (TokPost h₀ L m { s with heap := h, toks := tk } ((I, oI) :: (C, oC) :: (D, lst ys) :: (nw ++ r1)) kd i) E' { s with heap := h, toks := tk })
    (fin : ∀ nw ys toks g, Fresh nw r1 → TokS nw ys toks → toks.map (·.1) = ks.map (·.1) → Fin { s with heap := g } ys (nw ++ r1)) :
    CompSrc prog w A h₀ L m env elt x scope cl Fin (.ref rg) s := by
  refine CompSrc.range (n := ks.length) hh F N hr (small_one (by decide) (by decide) (by omega) (by omega)) (by rw [rangeSize_one]; split <;> omega) (by rw [sizeLine_eq]; omega) fun g => ?_
  refine compU_ind ks.length (JT r1 ks) (fun i ys news v I oI C oC D m₂ h tk E' hi hJ hv p1 p2 p3 p4 p5 p6 => ?_) (fun ys news hJ => ?_) _ 0 [] r1 (Nat.zero_add _) ⟨[], [], rfl, .nil, rfl, .nil, rfl⟩
  · obtain ⟨nw, toks, rfl, hfr, hyl, hT, hks⟩ := hJ
    subst hyl
    obtain ⟨tv, rfl⟩ := hv
    rw [Int.zero_add] at p2
    have hx : (strsV ks)[ys.length]? = some (.str (ks[ys.length]).1 (ks[ys.length]).2) := by rw [strsV, List.getElem?_map, List.getElem?_eq_getElem hi]; rfl
    refine wpAny_mono (elem ys.length _ _ tv I oI C oC D ys nw m₂ h tk E' hi hx hfr p1 p2 p3 p4 p5 p6) (fun y s₂ q => ?_) fun _ _ e => e
    obtain ⟨h', tk', nw2, wv, rfl, F', N', hf', ht, hd⟩ := q
    refine ⟨h', tk', nw2 ++ (nw ++ r1), rfl, F', fun p hp => N' p ?_, Off3.of fun p hp => ?_, trivial, nw2 ++ nw, _, by rw [List.append_assoc], (hf'.sub fun p hp => .tail _ (.tail _ (.tail _ (List.mem_append_right _ hp)))).app hfr, by rw [List.length_append]; rfl, hT.snoc ht hd, ?_⟩
    · simp only [List.mem_cons, List.mem_append] at hp ⊢
      rcases hp with h | h | h | h | h | h <;> simp [h]
    · rcases List.mem_append.mp hp with hp | hp
      · exact ⟨fun e => hf' p hp _ (.head _) e.symm, fun e => hf' p hp _ (.tail _ (.head _)) e.symm, fun e => hf' p hp _ (.tail _ (.tail _ (.head _))) e.symm⟩
      · exact p5.mem p hp
    · have e : (ks.map (·.1)).take (ys.length + 1) = (ks.map (·.1)).take ys.length ++ [(ks[ys.length]).1] := by
        rw [List.take_add_one, List.getElem?_map, List.getElem?_eq_getElem hi]; rfl
      rw [e, List.map_append, hks]; rfl
  · obtain ⟨nw, toks, rfl, hfr, hyl, hT, hks⟩ := hJ
    exact fin nw ys toks g hfr hT (by rw [hks, List.take_of_length_le (by rw [List.length_map]; exact Nat.le_refl _)])
end
theorem TokS.toksIn {nw fz : List (Addr × Obj)} {ys : List Value} {toks : List Tk} {D : Addr} (h : TokS nw ys toks) (hs : ∀ p ∈ nw, p ∈ fz) (hD : (D, lst ys) ∈ fz) : ToksIn fz D ys.length ys toks :=
  ⟨hD, fun k t hk => by
    obtain ⟨⟨v, h1, h2⟩, _, _⟩ := h.t k t hk
    exact ⟨v, h1, h2.mono hs⟩, fun t ht => by
    obtain ⟨k, hk⟩ := List.getElem?_of_mem ht
    exact (h.t k t hk).2.1.mono hs⟩
/-- the kinds of a turn -/
noncomputable def KsOk (l : List Str) : Prop := ∃ l0, l = l0 ++ [S "$end"] ∧ (∀ k ∈ l0, k ∈ kinds11) ∧ l0.length ≤ 16
theorem KsOk.len {l : List Str} (h : KsOk l) : l.length ≤ 17 := by
  obtain ⟨l0, rfl, _, hl⟩ := h
  rw [List.length_append, List.length_singleton]; omega
theorem KsOk.end_ {toks : List Tk} (h : KsOk (toks.map (·.1))) : ∀ (k : Nat) (t : Tk), toks[k]? = some t → t.1 = S "$end" → k + 1 = toks.length := by
  obtain ⟨l0, e, h11, hl⟩ := h
  intro k t hk ht
  have hl2 : toks.length = l0.length + 1 := by
    have := congrArg List.length e
    rw [List.length_map, List.length_append, List.length_singleton] at this
    exact this
  have hk' : (toks.map (·.1))[k]? = some t.1 := by rw [List.getElem?_map, hk]; rfl
  have hkl := (List.getElem?_eq_some_iff.mp hk).1
  by_cases hlt : k < l0.length
  · rw [e, List.getElem?_append_left hlt] at hk'
    have := h11 _ (List.mem_of_getElem? hk')
    rw [ht] at this
    exact absurd this (by decide)
  · omega
theorem KsOk.live {toks : List Tk} (h : KsOk (toks.map (·.1))) : Live toks := by
  obtain ⟨l0, e, h11, hl⟩ := h
  obtain ⟨t0, t1, rfl, _, h2⟩ := List.map_eq_append_iff.mp e
  cases t1 with
  | nil => cases h2
  | cons t t1 =>
    cases t1 with
    | nil => exact ⟨t0, t, rfl, by simpa using h2⟩
    | cons u t1 => simp at h2
theorem KsOk.lt100 {toks : List Tk} (h : KsOk (toks.map (·.1))) : toks.length < 100 := by
  have := h.len
  rw [List.length_map] at this
  omega
theorem KsOk.short {toks : List Tk} (h : KsOk (toks.map (·.1))) : ∀ t ∈ toks, t.1.length < 100 := by
  obtain ⟨l0, e, h11, hl⟩ := h
  intro t ht
  have hm : t.1 ∈ toks.map (·.1) := List.mem_map_of_mem ht
  rw [e] at hm
  rcases List.mem_append.mp hm with hm | hm
  · have k : ∀ x ∈ kinds11, x.length < 100 := by decide
    exact k _ (h11 _ hm)
  · rw [List.mem_singleton.mp hm]; decide
theorem ToksIn.mono {fz fz' : List (Addr × Obj)} {tl : Addr} {ct : Nat} {vs : List Value} {toks : List Tk} (h : ToksIn fz tl ct vs toks) (hs : ∀ p ∈ fz, p ∈ fz') : ToksIn fz' tl ct vs toks :=
  ⟨hs _ h.l, fun k t hk => by obtain ⟨v, h1, h2⟩ := h.t k t hk; exact ⟨v, h1, h2.mono hs⟩, fun t ht => (h.d t ht).mono hs⟩
theorem ToksIn.rdF {fz : List (Addr × Obj)} {tl x dx : Addr} {ct : Nat} {vs : List Value} {toks : List Tk} (h : ToksIn fz tl ct vs toks) (hk : KsOk (toks.map (·.1))) (hx : (x, instObj 231 dx) ∈ fz) : RdF fz x dx tl toks :=
  ⟨hx, Nat.lt_of_lt_of_le hk.lt100 (by decide), ⟨vs, ct, h.l, h.t⟩, fun t ht => ⟨h.d t ht, hk.short t ht⟩⟩
theorem KsOk.fine {toks : List Tk} (h : KsOk (toks.map (·.1))) : ∀ t ∈ toks, PyData.strOk t.1 = true := by
  obtain ⟨l0, e, h11, hl⟩ := h
  intro t ht
  have hm : t.1 ∈ toks.map (·.1) := List.mem_map_of_mem ht
  rw [e] at hm
  rcases List.mem_append.mp hm with hm | hm
  · have k : ∀ x ∈ kinds11, PyData.strOk x = true := by decide +kernel
    exact k _ (h11 _ hm)
  · rw [List.mem_singleton.mp hm]; decide +kernel
end

section
theorem start_Pm : True := by
  w_top off
  k_with_none
  (k_with "k_room!" => (((try simp only [depth_under_make, depth_under_kw, depth_in1, depth_deeper, depth_caller]); (try dsimp only [ktrTop]); omega)))
  (k_with "ktr_room!" => (((try simp only [depth_under_make, depth_under_kw, depth_in1, depth_deeper, depth_caller]); (try dsimp only [ktrTop]); omega)))
  (k_with "ktr_units!" => (((try simp only [units_in1, units_deeper, Around.mark_units, units_caller]); (try dsimp only [ktrTop]); omega)))
  (k_with "ktr_rel!" => (first | k_asm | exact rot1 (by k_asm) | exact rot2 (by k_asm) | exact rot3 (by k_asm)))
  (k_with "tb_rel!" => (first | k_asm | exact fun _ h => h | (intro p hp; k_mem)))
  (k_with "size_fits!" => (((try simp only [List.size_toArray, List.length_append, List.length_cons, List.length_nil, PySem.sizeLine_eq]); omega)))
  trivial
open PySem PySem.W PyProof.Rows PySem.Spec
set_option maxRecDepth 100000
section
variable {toks : List Tk}
theorem live_lt {k : Nat} (h : Live (toks.drop k)) : ∃ t, toks[k]? = some t ∧ k < toks.length := by
  obtain ⟨t, r, e, hv⟩ := live_get h
  exact ⟨t, hv, (List.getElem?_eq_some_iff.mp hv).1⟩
theorem ends_bar {st : Str} (h : nextS st (S "BAR") = atS endsT (S "BAR")) : nextS st (S "BAR") = some (S "parts") := by rw [h]; decide +kernel
noncomputable def AltsOk (toks : List Tk) (h : Dat) (a : Acc) (k : Nat) (als : List AltD) : Res (List Dat) → Prop
  | .err e => T toks k (S "parts") { a with cr := some ((h, als), ([], [])) } = .err e
  | .ok as k' => ∃ als' al st', as = (als' ++ [al]).map altD ∧ T toks k (S "parts") { a with cr := some ((h, als), ([], [])) } = T toks k' st' { a with cr := some ((h, als'), al) } ∧ Live (toks.drop k') ∧ Ends endsT st' (kindAt toks k') ∧ kindAt toks k' ≠ S "BAR"
theorem alts_plain (h : Dat) (a : Acc) : ∀ (f k : Nat) (als : List AltD), toks.length ≤ k + f → Live (toks.drop k) → AltsOk toks h a k als (altsT toks f k (als.map altD))
  | 0, k, als, hf, hl => by
    obtain ⟨t, hv, hlt⟩ := live_lt hl
    omega
  | f + 1, k, als, hf, hl => by
    have ha := alt_plain (h, als) a (toks.drop k) k [] rfl hl
    cases e : altS k [] (toks.drop k) with
    | err x => rw [e] at ha; rw [altsT_err e]; exact ha
    | ok D k1 =>
      rw [e] at ha
      have hle := altS_le e
      obtain ⟨al, st', rfl, h2, h3, h4⟩ := ha
      rw [altsT_ok e, contA]
      have em : als.map altD ++ [altD al] = (als ++ [al]).map altD := by rw [List.map_append, List.map_singleton]
      by_cases hb : kindAt toks k1 = S "BAR"
      · rw [if_pos hb, em]
        obtain ⟨t, hv, hlt⟩ := live_lt h3
        have hk := kindAt_of hv
        rw [hb] at hk
        have hl1 : Live (toks.drop (k1 + 1)) := live_next h3 hv (by rw [← hk]; decide)
        have ih := alts_plain h a f (k1 + 1) (als ++ [al]) (by omega) hl1
        have es : T toks k (S "parts") { a with cr := some ((h, als), ([], [])) } = T toks (k1 + 1) (S "parts") { a with cr := some ((h, als ++ [al]), ([], [])) } := by
          rw [h2, T_step hv (st' := S "parts") (by rw [← hk]; exact ends_bar (hb ▸ h4.n)), ← hk, pt_bar h4.p]; rfl
        cases e2 : altsT toks f (k1 + 1) ((als ++ [al]).map altD) with
        | err x => rw [e2] at ih; exact es.trans ih
        | ok as k' =>
          rw [e2] at ih
          obtain ⟨als', al', st2, g1, g2, g3⟩ := ih
          exact ⟨als', al', st2, g1, es.trans g2, g3⟩
      · rw [if_neg hb, em]
        exact ⟨als, al, st', rfl, h2, h3, h4, hb⟩
/-- a state in which a rule may end -/
theorem ends_semi {st kd : Str} (h : Ends endsT st kd) (h1 : kd ≠ S "BAR") (h2 : kd ≠ S "SEMI") : Ends atEnds st kd := by
  refine ⟨h.p, ?_⟩
  rw [h.n]
  unfold endsT atEnds
  rw [atS_cons, if_neg h1, atS_cons, if_neg h2]
noncomputable def RuleOk (toks : List Tk) (w : Dat) (a : Acc) (k : Nat) (d : Dat) : Res Dat → Prop
  | .err e => T toks k (S "parts") { a with cr := some ((w, []), ([], [])) } = .err e
  | .ok D k' => ∃ als al st', D = .tuple [d, .list ((als ++ [al]).map altD)] ∧ T toks k (S "parts") { a with cr := some ((w, []), ([], [])) } = T toks k' st' { a with cr := some ((w, als), al) } ∧ Live (toks.drop k') ∧ Ends atEnds st' (kindAt toks k')
theorem rule_plain (w : Dat) (a : Acc) (k : Nat) (hl : Live (toks.drop (k + 1))) : RuleOk toks w a (k + 1) (datAt toks k) (ruleT toks toks.length k) := by
  have ha := alts_plain w a toks.length (k + 1) [] (by omega) hl
  rw [List.map_nil] at ha
  unfold ruleT
  cases e : altsT toks toks.length (k + 1) [] with
  | err x => rw [e] at ha; exact ha
  | ok as k1 =>
    rw [e] at ha
    obtain ⟨als, al, st', rfl, h2, h3, h4, h5⟩ := ha
    dsimp only
    unfold semi
    by_cases hs : kindAt toks k1 = S "SEMI"
    · rw [if_pos hs]
      obtain ⟨t, hv, hlt⟩ := live_lt h3
      have hk := kindAt_of hv
      rw [hs] at hk
      have hn : nextS st' t.1 = some (S "closed") := by
        have := h4.n
        rw [hs] at this
        rw [← hk, this]; decide +kernel
      refine ⟨als, al, S "closed", rfl, ?_, live_next h3 hv (by rw [← hk]; decide), ⟨plain_closed, nx_closed _⟩⟩
      rw [h2, T_step hv hn, ← hk, pt_no h4.p (.inl rfl)]
    · rw [if_neg hs]
      exact ⟨als, al, st', rfl, h2, h3, ends_semi h4 h5 hs⟩
structure RPre (st : Str) (a : Acc) (kd : Str) : Prop where
  p : Plain st
  n : (st = S "first" ∧ a.rsAll = []) ∨ (a.rsAll ≠ [] ∧ nextS st kd = atS atEnds kd)
theorem RPre.head {st : Str} {a : Acc} (h : RPre st a (S "HEAD")) : nextS st (S "HEAD") = some (S "parts") := by
  rcases h.n with ⟨rfl, _⟩ | ⟨_, e⟩
  · decide +kernel
  · rw [e]; decide +kernel
noncomputable def RulesOk (toks : List Tk) (st : Str) (a : Acc) (k : Nat) : Res (List Dat) → Prop
  | .err e => T toks k st a = .err e
  | .ok rs k' => ∃ st' a', rs = a'.rsAll.map ruleD ∧ a'.dsAll = a.dsAll ∧ T toks k st a = T toks k' st' a' ∧ Live (toks.drop k') ∧ kindAt toks k' ≠ S "HEAD" ∧ RPre st' a' (kindAt toks k')
theorem rules_plain : ∀ (f k : Nat) (st : Str) (a : Acc), toks.length ≤ k + f → Live (toks.drop k) → RPre st a (kindAt toks k) → RulesOk toks st a k (rulesT toks f k (a.rsAll.map ruleD))
  | 0, k, st, a, hf, hl, _ => by
    obtain ⟨t, hv, hlt⟩ := live_lt hl
    omega
  | f + 1, k, st, a, hf, hl, hp => by
    by_cases hH : kindAt toks k = S "HEAD"
    · obtain ⟨t, hv, hlt⟩ := live_lt hl
      have hk := kindAt_of hv
      rw [hH] at hk hp
      have hl1 : Live (toks.drop (k + 1)) := live_next hl hv (by rw [← hk]; decide)
      have es : T toks k st a = T toks (k + 1) (S "parts") { { a with rs := a.rsAll } with cr := some ((t.2.2, []), ([], [])) } := by
        rw [T_step hv (st' := S "parts") (by rw [← hk]; exact hp.head), ← hk, pt_head hp.p]
      have hr := rule_plain t.2.2 { a with rs := a.rsAll } k hl1
      rw [datAt_of hv] at hr
      cases e : ruleT toks toks.length k with
      | err x =>
        rw [e] at hr
        rw [rulesT_err hH e]
        exact es.trans hr
      | ok D k1 =>
        rw [e] at hr
        have hle := ruleT_le e
        rw [rulesT_ok hH e]
        obtain ⟨als, al, st', rfl, h2, h3, h4⟩ := hr
        have em : a.rsAll.map ruleD ++ [Dat.tuple [t.2.2, .list ((als ++ [al]).map altD)]] = (Acc.rsAll { { a with rs := a.rsAll } with cr := some ((t.2.2, als), al) }).map ruleD := by
          exact (List.map_append (f := ruleD) (l₁ := a.rsAll) (l₂ := [(t.2.2, als ++ [al])])).symm
        rw [em]
        have ih := rules_plain f k1 st' { { a with rs := a.rsAll } with cr := some ((t.2.2, als), al) } (by omega) h3 ⟨h4.p, .inr ⟨by simp [Acc.rsAll], h4.n⟩⟩
        cases e2 : rulesT toks f k1 ((Acc.rsAll { { a with rs := a.rsAll } with cr := some ((t.2.2, als), al) }).map ruleD) with
        | err x => rw [e2] at ih; exact es.trans (h2.trans ih)
        | ok rs k' =>
          rw [e2] at ih
          obtain ⟨st2, a2, g1, g2, g3, g4⟩ := ih
          exact ⟨st2, a2, g1, g2, es.trans (h2.trans g3), g4⟩
    · rw [rulesT, if_neg hH]
      exact ⟨st, a, rfl, rfl, rfl, hl, hH, hp⟩
theorem items_plain (w : Dat) (a : Acc) : ∀ (r : List Tk) (k : Nat) (is : List Dat), toks.drop k = r → Live r → T toks k (S "words") { a with cd := some (w, is) } = T toks (itemsS k is r).2 (S "words") { a with cd := some (w, (itemsS k is r).1) } ∧ Live (toks.drop (itemsS k is r).2) ∧ isSym (kindAt toks (itemsS k is r).2) = false
  | [], _, _, _, h => absurd rfl h.ne
  | t :: r, k, is, e, hl => by
    have hv := drop_get e
    cases hp : isSym t.1 with
    | true =>
      have ih := items_plain w a r (k + 1) (is ++ [t.2.2]) (drop_next e) (hl.tail (isSym_ne hp))
      rw [itemsS, if_pos hp]
      refine ⟨?_, ih.2⟩
      rw [← ih.1, T_step hv (st' := S "words") (by
        rw [nx_words, if_neg (by rcases isSym_or hp with h | h | h <;> (rw [h]; decide)), if_neg (by rcases isSym_or hp with h | h | h <;> (rw [h]; decide)), if_pos hp]), pt_sym (.inr rfl) hp]
      rfl
    | false =>
      rw [itemsS, if_neg (by rw [hp]; decide)]
      exact ⟨rfl, by rw [e]; exact hl, by rw [kindAt_of hv]; exact hp⟩
theorem itemsS_grow : ∀ (r : List Tk) (k : Nat) (is : List Dat), is.length ≤ (itemsS k is r).1.length
  | [], _, _ => Nat.le_refl _
  | t :: r, k, is => by
    unfold itemsS
    split
    · exact Nat.le_trans (by rw [List.length_append]; omega) (itemsS_grow r (k + 1) _)
    · exact Nat.le_refl _
noncomputable def DeclOk (toks : List Tk) (a : Acc) (k : Nat) (d : Dat) : Res Dat → Prop
  | .err e => T toks k (S "bare") { a with cd := some (d, []) } = .err e
  | .ok D k' => ∃ is, D = declD (d, is) ∧ T toks k (S "bare") { a with cd := some (d, []) } = T toks k' (S "words") { a with cd := some (d, is) } ∧ Live (toks.drop k') ∧ isSym (kindAt toks k') = false
theorem decl_plain (a : Acc) (k : Nat) (hl : Live (toks.drop (k + 1))) : DeclOk toks a (k + 1) (datAt toks k) (declT toks k) := by
  obtain ⟨t, r, e, hv⟩ := live_get hl
  unfold declT
  cases hp : isSym t.1 with
  | false =>
    rw [e, itemsS, if_neg (by rw [hp]; decide)]
    exact T_err hv (by rw [nx_bare, if_neg (by rw [hp]; decide)])
  | true =>
    have hl1 := live_next hl hv (isSym_ne hp)
    have ih := items_plain (datAt toks k) a r (k + 2) [t.2.2] (drop_next e) (by rw [← drop_next e]; exact hl1)
    have hg := itemsS_grow r (k + 2) [t.2.2]
    have es : T toks (k + 1) (S "bare") { a with cd := some (datAt toks k, []) } = T toks (k + 2) (S "words") { a with cd := some (datAt toks k, [t.2.2]) } := by
      rw [T_step hv (st' := S "words") (by rw [nx_bare, if_pos hp]), pt_sym (.inl rfl) hp]; rfl
    rw [e, itemsS, if_pos hp, List.nil_append]
    generalize hy : itemsS (k + 2) [t.2.2] r = y at ih hg
    obtain ⟨is, j⟩ := y
    cases is with
    | nil => simp at hg
    | cons i is => exact ⟨i :: is, rfl, es.trans ih.1, ih.2.1, ih.2.2⟩
noncomputable def DPre (st kd : Str) : Prop := st = S "begin" ∨ (st = S "words" ∧ isSym kd = false)
theorem DPre.kind {st : Str} (h : DPre st (S "KIND")) : nextS st (S "KIND") = some (S "bare") := by
  rcases h with rfl | ⟨rfl, _⟩ <;> decide +kernel
noncomputable def DeclsOk (toks : List Tk) (st : Str) (a : Acc) (k : Nat) : Res (List Dat) → Prop
  | .err e => T toks k st a = .err e
  | .ok ds k' => ∃ st' a', ds = a'.dsAll.map declD ∧ a'.rsAll = a.rsAll ∧ T toks k st a = T toks k' st' a' ∧ Live (toks.drop k') ∧ kindAt toks k' ≠ S "KIND" ∧ DPre st' (kindAt toks k')
theorem decls_plain : ∀ (f k : Nat) (st : Str) (a : Acc), toks.length ≤ k + f → Live (toks.drop k) → DPre st (kindAt toks k) → DeclsOk toks st a k (declsT toks f k (a.dsAll.map declD))
  | 0, k, st, a, hf, hl, _ => by
    obtain ⟨t, hv, hlt⟩ := live_lt hl
    omega
  | f + 1, k, st, a, hf, hl, hp => by
    by_cases hK : kindAt toks k = S "KIND"
    · obtain ⟨t, hv, hlt⟩ := live_lt hl
      have hk := kindAt_of hv
      rw [hK] at hk hp
      have hl1 : Live (toks.drop (k + 1)) := live_next hl hv (by rw [← hk]; decide)
      have es : T toks k st a = T toks (k + 1) (S "bare") { { a with ds := a.dsAll } with cd := some (datAt toks k, []) } := by
        rw [T_step hv (st' := S "bare") (by rw [← hk]; exact hp.kind), ← hk, pt_kind, datAt_of hv]
      have hr := decl_plain { a with ds := a.dsAll } k hl1
      cases e : declT toks k with
      | err x =>
        rw [e] at hr
        rw [declsT_err hK e]
        exact es.trans hr
      | ok D k1 =>
        rw [e] at hr
        have hle := declT_le e
        rw [declsT_ok hK e]
        obtain ⟨is, rfl, h2, h3, h4⟩ := hr
        have em : a.dsAll.map declD ++ [declD (datAt toks k, is)] = (Acc.dsAll { { a with ds := a.dsAll } with cd := some (datAt toks k, is) }).map declD := by
          show _ = List.map declD (a.dsAll ++ [(datAt toks k, is)])
          rw [List.map_append, List.map_singleton]
        rw [em]
        have ih := decls_plain f k1 (S "words") { { a with ds := a.dsAll } with cd := some (datAt toks k, is) } (by omega) h3 (.inr ⟨rfl, h4⟩)
        cases e2 : declsT toks f k1 ((Acc.dsAll { { a with ds := a.dsAll } with cd := some (datAt toks k, is) }).map declD) with
        | err x => rw [e2] at ih; exact es.trans (h2.trans ih)
        | ok ds k' =>
          rw [e2] at ih
          obtain ⟨st2, a2, g1, g2, g3, g4⟩ := ih
          exact ⟨st2, a2, g1, g2, es.trans (h2.trans g3), g4⟩
    · rw [declsT, if_neg hK]
      exact ⟨st, a, rfl, rfl, rfl, hl, hK, hp⟩
noncomputable def LawOk (toks : List Tk) : DRes → Prop
  | .err k => fileT toks = .err k
  | .ok a => ∃ k', fileT toks = .ok (a.dsAll.map declD, a.rsAll.map ruleD) k'
theorem law_plain (hL : Live toks) (hend : ∀ (k : Nat) (t : Tk), toks[k]? = some t → t.1 = S "$end" → k + 1 = toks.length) : LawOk toks (dueS toks 0 (S "begin") acc0) := by
  have h0 : dueS toks 0 (S "begin") acc0 = T toks 0 (S "begin") acc0 := by rw [T, List.drop_zero]
  have hd := decls_plain (toks := toks) (toks.length + 1) 0 (S "begin") acc0 (by omega) (by rw [List.drop_zero]; exact hL) (.inl rfl)
  rw [show (acc0.dsAll.map declD) = [] from rfl] at hd
  rw [h0]
  have hF : fileT toks = fileMid toks (declsT toks (toks.length + 1) 0 []) := rfl
  cases e : declsT toks (toks.length + 1) 0 [] with
  | err x =>
    rw [e] at hd hF
    have hd' : T toks 0 (S "begin") acc0 = .err x := hd
    rw [hd']; exact hF
  | ok ds k =>
    rw [e] at hd hF
    obtain ⟨st, a, rfl, hrs, h3, h4, h5, h6⟩ := hd
    obtain ⟨t, hv, hlt⟩ := live_lt h4
    have hk := kindAt_of hv
    rw [h3]
    rw [fileMid] at hF
    by_cases hM : kindAt toks k = S "MARK"
    · rw [if_pos hM] at hF
      rw [hM] at hk h6
      have hl1 : Live (toks.drop (k + 1)) := live_next h4 hv (by rw [← hk]; decide)
      have es : T toks k st a = T toks (k + 1) (S "first") a := by
        have hn : nextS st t.1 = some (S "first") := by
          rw [← hk]
          rcases h6 with rfl | ⟨rfl, _⟩ <;> decide +kernel
        rw [T_step hv hn, ← hk, pt_mark (by rcases h6 with rfl | ⟨rfl, _⟩ <;> decide)]
      rw [es]
      have hrs0 : a.rsAll = [] := hrs.trans rfl
      have hr := rules_plain (toks.length + 1) (k + 1) (S "first") a (by omega) hl1 ⟨plain_first, .inl ⟨rfl, hrs0⟩⟩
      rw [hrs0, List.map_nil] at hr
      cases e2 : rulesT toks (toks.length + 1) (k + 1) [] with
      | err x =>
        rw [e2] at hr hF
        have hr' : T toks (k + 1) (S "first") a = .err x := hr
        rw [hr']; exact hF
      | ok rs k2 =>
        rw [e2] at hr hF
        obtain ⟨st2, a2, rfl, hds, g3, g4, g5, g6⟩ := hr
        obtain ⟨t2, hv2, hlt2⟩ := live_lt g4
        have hk2 := kindAt_of hv2
        rw [← hds] at hF
        rw [g3]
        rcases g6.n with ⟨rfl, h0⟩ | ⟨hne, hn⟩
        · have er : T toks k2 (S "first") a2 = .err k2 := T_err hv2 (by rw [nx_first, if_neg (by rw [← hk2]; exact g5)])
          rw [er]
          rw [h0] at hF
          exact hF
        · obtain ⟨r1, rr, hrr⟩ : ∃ r1 rr, a2.rsAll = r1 :: rr := by
            cases hq : a2.rsAll with
            | nil => exact absurd hq hne
            | cons r1 rr => exact ⟨r1, rr, rfl⟩
          have done_ : ∀ (k : Nat) (t : Tk) (st : Str), toks[k]? = some t → t.1 = S "$end" → Plain st → nextS st (S "$end") = some (S "done") → T toks k st a2 = .ok a2 := fun k t st hv ht hp hn => by
            rw [T_step hv (st' := S "done") (by rw [ht]; exact hn), ht, pt_no hp (.inr (.inr rfl))]
            have := hend k t hv ht
            rw [T, this, List.drop_length, dueS]
          have hf : fileT toks = if kindAt toks (mark toks k2) = S "$end" then .ok (a2.dsAll.map declD, a2.rsAll.map ruleD) (mark toks k2) else .err (mark toks k2) := by
            rw [hF, hrr]; rfl
          by_cases hM2 : kindAt toks k2 = S "MARK"
          · rw [hM2] at hk2 hn
            have hl2 : Live (toks.drop (k2 + 1)) := live_next g4 hv2 (by rw [← hk2]; decide)
            obtain ⟨t3, hv3, hlt3⟩ := live_lt hl2
            have hk3 := kindAt_of hv3
            have es2 : T toks k2 st2 a2 = T toks (k2 + 1) (S "over") a2 := by
              rw [T_step hv2 (st' := S "over") (by rw [← hk2, hn]; decide +kernel), ← hk2, pt_mark g6.p.c]
            rw [es2]
            have hm : mark toks k2 = k2 + 1 := by rw [mark, if_pos hM2]
            rw [hm] at hf
            by_cases hE : kindAt toks (k2 + 1) = S "$end"
            · rw [done_ (k2 + 1) t3 (S "over") hv3 (by rw [← hk3]; exact hE) plain_over (by decide +kernel)]
              exact ⟨k2 + 1, by rw [hf, if_pos hE]⟩
            · have er : T toks (k2 + 1) (S "over") a2 = .err (k2 + 1) := T_err hv3 (by rw [nx_over, if_neg (by rw [← hk3]; exact hE)])
              rw [er]
              rw [if_neg hE] at hf
              exact hf
          · have hm : mark toks k2 = k2 := by rw [mark, if_neg hM2]
            rw [hm] at hf
            by_cases hE : kindAt toks k2 = S "$end"
            · rw [hE] at hn
              rw [done_ k2 t2 st2 hv2 (by rw [← hk2]; exact hE) g6.p (by rw [hn]; decide +kernel)]
              exact ⟨k2, by rw [hf, if_pos hE]⟩
            · have er : T toks k2 st2 a2 = .err k2 := T_err hv2 (by
                rw [← hk2, hn, atEnds, atS_cons, if_neg g5, atS_cons, if_neg hM2, atS_cons, if_neg hE]; rfl)
              rw [er]
              rw [if_neg hE] at hf
              exact hf
    · rw [if_neg hM] at hF
      have er : T toks k st a = .err k := T_err hv (by
        rw [← hk]
        rcases h6 with rfl | ⟨rfl, hs⟩
        · rw [nx_begin, if_neg h5, if_neg hM]
        · rw [nx_words, if_neg h5, if_neg hM, if_neg (by rw [hs]; decide)])
      rw [er]; exact hF
end
end

section
theorem start_Ao : True := by
  w_top off
  k_with_none
  (k_with "k_room!" => (((try simp only [depth_under_make, depth_under_kw, depth_in1, depth_deeper, depth_caller]); (try dsimp only [ktrTop]); omega)))
  (k_with "ktr_room!" => (((try simp only [depth_under_make, depth_under_kw, depth_in1, depth_deeper, depth_caller]); (try dsimp only [ktrTop]); omega)))
  (k_with "ktr_units!" => (((try simp only [units_in1, units_deeper, Around.mark_units, units_caller]); (try dsimp only [ktrTop]); omega)))
  (k_with "ktr_rel!" => (first | k_asm | exact rot1 (by k_asm) | exact rot2 (by k_asm) | exact rot3 (by k_asm)))
  (k_with "tb_rel!" => (first | k_asm | exact fun _ h => h | (intro p hp; k_mem)))
  (k_with "size_fits!" => (((try simp only [List.size_toArray, List.length_append, List.length_cons, List.length_nil, PySem.sizeLine_eq]); omega)))
  trivial
open PySem PySem.W PyProof.Rows PySem.Spec
set_option maxRecDepth 100000
structure DOk (n : Nat) (d : DeclD) : Prop where
  h : kqdOk 2 d.1 = true
  l : d.2.length ≤ n
  i : ∀ x ∈ d.2, kqdOk 2 x = true
noncomputable def PairOk (p : Dat) : Prop := ∃ a b, p = .tuple [a, b] ∧ kqdOk 2 a = true ∧ kqdOk 2 b = true
structure AOk (n : Nat) (al : AltD) : Prop where
  l : al.1.length ≤ n
  p : ∀ x ∈ al.1, PairOk x
  q : ∀ x ∈ al.2, kqdOk 2 x = true
  m : al.2.length ≤ n
structure ROk (n : Nat) (r : RuleD) : Prop where
  h : PairOk r.1
  l : r.2.length ≤ n
  a : ∀ al ∈ r.2, AOk n al
structure AccOk (n : Nat) (a : Acc) : Prop where
  d : ∀ x ∈ a.dsAll, DOk n x
  dl : a.dsAll.length ≤ n
  r : ∀ x ∈ a.rsAll, ROk n x
  rl : a.rsAll.length ≤ n
theorem DOk.mono {n m : Nat} {d : DeclD} (h : DOk n d) (k : n ≤ m) : DOk m d := ⟨h.h, Nat.le_trans h.l k, h.i⟩
theorem AOk.mono {n m : Nat} {d : AltD} (h : AOk n d) (k : n ≤ m) : AOk m d := ⟨Nat.le_trans h.l k, h.p, h.q, Nat.le_trans h.m k⟩
theorem ROk.mono {n m : Nat} {d : RuleD} (h : ROk n d) (k : n ≤ m) : ROk m d := ⟨h.h, Nat.le_trans h.l k, fun al ha => (h.a al ha).mono k⟩
theorem AccOk.mono {n m : Nat} {a : Acc} (h : AccOk n a) (k : n ≤ m) : AccOk m a := ⟨fun x hx => (h.d x hx).mono k, Nat.le_trans h.dl k, fun x hx => (h.r x hx).mono k, Nat.le_trans h.rl k⟩
theorem all_snoc {α : Type} {P : α → Prop} {l : List α} {x : α} (h : ∀ y ∈ l, P y) (hx : P x) : ∀ y ∈ l ++ [x], P y := fun y hy => by
  rcases List.mem_append.mp hy with hy | hy
  · exact h y hy
  · rw [List.mem_singleton.mp hy]; exact hx
structure TFine (kd : Str) (w : Dat) : Prop where
  a : kqdOk 2 w = true
  b : kd = S "HEAD" → PairOk w
theorem rsAll_some {a : Acc} {c : RuleD × AltD} (h : a.cr = some c) : a.rsAll = a.rs ++ [(c.1.1, c.1.2 ++ [c.2])] := by rw [Acc.rsAll, h]; rfl
theorem dsAll_some {a : Acc} {c : DeclD} (h : a.cd = some c) : a.dsAll = a.ds ++ [c] := by rw [Acc.dsAll, h]; rfl
/-- the open rule is turned -/
theorem AccOk.cr {n : Nat} {a : Acc} (h : AccOk n a) (f : RuleD × AltD → RuleD × AltD) (hf : ∀ c, ROk n (c.1.1, c.1.2 ++ [c.2]) → ROk (n + 1) ((f c).1.1, (f c).1.2 ++ [(f c).2])) : AccOk (n + 1) { a with cr := a.cr.map f } := by
  cases e : a.cr with
  | none => 
    have : ({ a with cr := Option.map f none } : Acc) = a := by obtain ⟨_, _, _, c⟩ := a; cases e; rfl
    rw [this]; exact h.mono (Nat.le_succ n)
  | some c =>
    have e1 := rsAll_some e
    have hr := h.r
    have hl := h.rl
    rw [e1] at hr hl
    refine ⟨fun x hx => (h.d x hx).mono (Nat.le_succ n), Nat.le_trans h.dl (Nat.le_succ n), ?_, ?_⟩
    · show ∀ x ∈ a.rs ++ [((f c).1.1, (f c).1.2 ++ [(f c).2])], ROk (n + 1) x
      exact all_snoc (fun y hy => (hr y (List.mem_append_left _ hy)).mono (Nat.le_succ n)) (hf c (hr _ (List.mem_append_right _ (.head _))))
    · show (a.rs ++ [((f c).1.1, (f c).1.2 ++ [(f c).2])]).length ≤ n + 1
      rw [List.length_append] at hl ⊢
      exact Nat.le_succ_of_le hl
theorem AccOk.part {n : Nat} {a : Acc} (h : AccOk n a) {p : Dat} (hp : PairOk p) : AccOk (n + 1) (addPart p a) := by
  refine h.cr _ fun c hc => ⟨hc.h, ?_, ?_⟩
  · have := hc.l
    rw [List.length_append] at this ⊢
    exact Nat.le_succ_of_le this
  · have h1 : ∀ al ∈ c.1.2, AOk (n + 1) al := fun al ha => (hc.a al (List.mem_append_left _ ha)).mono (Nat.le_succ n)
    have h2 := hc.a _ (List.mem_append_right _ (.head _))
    exact all_snoc h1 ⟨by rw [List.length_append]; exact Nat.succ_le_succ h2.l, all_snoc h2.p hp, h2.q, Nat.le_succ_of_le h2.m⟩
theorem AccOk.parted {n : Nat} {a : Acc} {st kd : Str} {w : Dat} (h : AccOk n a) (ht : TFine kd w) : AccOk (n + 1) (parted st kd w a) := by
  unfold Mine.parted
  have up := Nat.le_succ n
  split
  · refine ⟨?_, ?_, fun x hx => (h.r x hx).mono up, Nat.le_trans h.rl up⟩
    · show ∀ x ∈ a.dsAll ++ [(w, [])], DOk (n + 1) x
      exact all_snoc (fun y hy => (h.d y hy).mono up) ⟨ht.a, Nat.zero_le _, fun _ h => nomatch h⟩
    · show (a.dsAll ++ [(w, [])]).length ≤ n + 1
      rw [List.length_append]; exact Nat.succ_le_succ h.dl
  split
  · cases e : a.cd with
    | none =>
      have : ({ a with cd := Option.map (fun d : DeclD => (d.1, d.2 ++ [w])) none } : Acc) = a := by obtain ⟨_, c, _, _⟩ := a; cases e; rfl
      rw [this]; exact h.mono up
    | some d =>
      have e1 := dsAll_some e
      have hd := h.d
      have hl := h.dl
      rw [e1] at hd hl
      have h1 := hd _ (List.mem_append_right _ (.head _))
      refine ⟨?_, ?_, fun x hx => (h.r x hx).mono up, Nat.le_trans h.rl up⟩
      · show ∀ x ∈ a.ds ++ [(d.1, d.2 ++ [w])], DOk (n + 1) x
        exact all_snoc (fun y hy => (hd y (List.mem_append_left _ hy)).mono up) ⟨h1.h, by rw [List.length_append]; exact Nat.succ_le_succ h1.l, all_snoc h1.i ht.a⟩
      · show (a.ds ++ [(d.1, d.2 ++ [w])]).length ≤ n + 1
        rw [List.length_append] at hl ⊢
        exact Nat.le_succ_of_le hl
  split
  · rename_i hk
    refine ⟨fun x hx => (h.d x hx).mono up, Nat.le_trans h.dl up, ?_, ?_⟩
    · show ∀ x ∈ a.rsAll ++ [(w, [] ++ [([], [])])], ROk (n + 1) x
      exact all_snoc (fun y hy => (h.r y hy).mono up) ⟨ht.b hk, Nat.succ_le_succ (Nat.zero_le _), fun al ha => by rw [List.mem_singleton.mp ha]; exact ⟨Nat.zero_le _, fun _ h => (nomatch h), fun _ h => (nomatch h), Nat.zero_le _⟩⟩
    · show (a.rsAll ++ [(w, [] ++ [([], [])])]).length ≤ n + 1
      rw [List.length_append]; exact Nat.succ_le_succ h.rl
  split
  · refine h.cr _ fun c hc => ⟨hc.h, ?_, ?_⟩
    · rw [List.length_append]; exact Nat.succ_le_succ hc.l
    · exact all_snoc (fun al ha => (hc.a al ha).mono up) ⟨Nat.zero_le _, fun _ h => (nomatch h), fun _ h => (nomatch h), Nat.zero_le _⟩
  split
  · refine h.cr _ fun c hc => ⟨hc.h, ?_, ?_⟩
    · have := hc.l
      rw [List.length_append] at this ⊢
      exact Nat.le_succ_of_le this
    · have h2 := hc.a _ (List.mem_append_right _ (.head _))
      exact all_snoc (fun al ha => (hc.a al (List.mem_append_left _ ha)).mono up) ⟨Nat.le_trans h2.l up, h2.p, all_snoc h2.q ht.a, by rw [List.length_append]; exact Nat.succ_le_succ h2.m⟩
  split
  · exact h.part ⟨_, _, rfl, by decide +kernel, ht.a⟩
  split
  · exact h.part ⟨_, _, rfl, by decide +kernel, ht.a⟩
  split
  · exact h.part ⟨_, _, rfl, by decide +kernel, by decide +kernel⟩
  · exact h.mono up
theorem due_acc : ∀ {toks : List Tk} {k n : Nat} {st : Str} {a b : Acc}, AccOk n a → (∀ t ∈ toks, TFine t.1 t.2.2) → dueS toks k st a = .ok b → AccOk (n + toks.length) b
  | [], _, _, _, _, _, h, _, e => by cases e; exact h
  | t :: r, k, n, st, a, b, h, ht, e => by
    rw [dueS] at e
    split at e
    · cases e
    · have := due_acc (h.parted (ht t (.head _))) (fun u hu => ht u (.tail _ hu)) e
      rw [List.length_cons]
      rwa [show n + (r.length + 1) = n + 1 + r.length by omega]
theorem acc0_ok : AccOk 0 acc0 := ⟨fun _ h => (nomatch h), Nat.le_refl _, fun _ h => (nomatch h), Nat.le_refl _⟩
theorem num_ok : ∀ k < 20, PyData.strOk (S "n" ++ numS k) = true ∧ PyData.strOk (S "h" ++ numS k) = true ∧ PyData.strOk (S "do" ++ numS k) = true := by decide +kernel
theorem worth_fine {kd : Str} {k : Nat} (hk : k < 20) (hkd : PyData.strOk kd = true) : TFine kd (worthD kd k) := by
  obtain ⟨n1, n2, n3⟩ := num_ok k hk
  constructor
  · unfold worthD
    split
    · decide +kernel
    split
    · exact n1
    split
    · decide +kernel
    split
    · rfl
    split
    · show ([Dat.str (S "h" ++ numS k), Dat.int (1 + (k : Int).fdiv 3)].all (kqdOk 1)) = true
      simp only [List.all_cons, List.all_nil, kqdOk, n2, Bool.and_self]
    split
    · exact n3
    split
    · decide +kernel
    · exact hkd
  · intro e
    unfold worthD
    subst e
    rw [if_neg (by decide), if_neg (by decide), if_neg (by decide), if_neg (by decide), if_pos rfl]
    exact ⟨_, _, rfl, n2, rfl⟩
end

section
theorem start_Le : True := by
  w_top off
  k_with_none
  (k_with "k_room!" => (((try simp only [depth_under_make, depth_under_kw, depth_in1, depth_deeper, depth_caller]); (try dsimp only [ktrTop]); omega)))
  (k_with "ktr_room!" => (((try simp only [depth_under_make, depth_under_kw, depth_in1, depth_deeper, depth_caller]); (try dsimp only [ktrTop]); omega)))
  (k_with "ktr_units!" => (((try simp only [units_in1, units_deeper, Around.mark_units, units_caller]); (try dsimp only [ktrTop]); omega)))
  (k_with "ktr_rel!" => (first | k_asm | exact rot1 (by k_asm) | exact rot2 (by k_asm) | exact rot3 (by k_asm)))
  (k_with "tb_rel!" => (first | k_asm | exact fun _ h => h | (intro p hp; k_mem)))
  (k_with "size_fits!" => (((try simp only [List.size_toArray, List.length_append, List.length_cons, List.length_nil, PySem.sizeLine_eq]); omega)))
  trivial
open PySem PySem.W PyProof.Rows PySem.Spec PySem.Calls PyProof.V PyProof.Rows.LCg
set_option maxRecDepth 100000
noncomputable def fHead : Dat → Dat
  | .tuple [a, _] => a
  | d => d
section
variable {prog : Program} {w : World} {A : Around} {E : Value → Shared → Prop} {s : Shared} {h₀ : Heap} {L a b l l2 : Addr} {m : Str → Option Value} {news n₁ n₂ : List (Addr × Obj)} {xs ys vs : List Value} {ds es : List Dat} {d e : Dat} {v : Value} {c c2 : Nat} {x : Str} {t u : Tok} {Q : Value → Shared → Prop}
open Classical in
theorem ne_same (N : News h₀ L s.heap news) (ma : (a, lst xs) ∈ news) (mb : (b, lst ys) ∈ news) (Da : DatAll n₁ xs ds) (Db : DatAll n₂ ys es) (sa : ∀ p ∈ n₁, p ∈ news) (sb : ∀ p ∈ n₂, p ∈ news)
    (ha : ∀ d ∈ ds, kqdOk 8 d = true) (he : ds = es) (hu : A.units + 64 < cLine) (h : Q (.bool false) s) : wpAny (model prog w) A (compareOp .NotEq (.ref a) (.ref b)) Q E s := by
  subst he
  exact kqd_ne N ma rfl rfl Da sa mb rfl rfl Db sb ha ha hu (by rw [decide_eq_true rfl]; exact h)
theorem kqdP_refl (n : Nat) (d : Dat) (h : kqdOk n d = true) : PyData.eqv (kqdP d) (kqdP d) = true := (kqd_eqv n d d n h h).mpr rfl
theorem ne_tup (N : News h₀ L s.heap news) (Da : DatIn n₁ (.ref a) (.tuple ds)) (Db : DatIn n₂ (.ref b) (.tuple es)) (sa : ∀ p ∈ n₁, p ∈ news) (sb : ∀ p ∈ n₂, p ∈ news)
    (ha : ∀ d ∈ ds, kqdOk 8 d = true) (he : ds = es) (hu : A.units + 64 < cLine) (h : Q (.bool false) s) : wpAny (model prog w) A (compareOp .NotEq (.ref a) (.ref b)) Q E s := by
  subst he
  have hk : kqdOk 9 (.tuple ds) = true := by simpa [kqdOk] using ha
  obtain ⟨as, ra⟩ := kqd_in N 9 (Da.mono sa) hk
  obtain ⟨bs, rb⟩ := kqd_in N 9 (Db.mono sb) hk
  have la := kqd_lay 9 (.tuple ds) hk
  have q := kqdP_refl 9 (.tuple ds) hk
  refine ne_dataH ra rb ?_ ?_ hu (by rw [q]; exact h)
  · unfold SeqAt.shaped; rw [la.1, Bool.true_and]; exact decide_eq_true (Nat.le_trans la.2 (by decide))
  · unfold SeqAt.shaped; rw [la.1, Bool.true_and]; exact decide_eq_true (Nat.le_trans la.2 (by decide))
theorem add_snoc (F : Fr h₀ L s.heap m) (N : News h₀ L s.heap news) (h1 : (l, W.listOf vs.toArray c) ∈ news) (h2 : (b, W.listOf #[.str x t] c2) ∈ news) (hz : vs.length < 1000)
    (h : ∀ D h', Fr h₀ L h' m → News h₀ L h' ((D, W.listOf (vs ++ [Value.str x t]).toArray 0) :: news) → (∀ p ∈ news, p.1 < D) → Q (.ref D) { s with heap := h' }) : wpAny (model prog w) A (binaryOp .Add (.ref l) (.ref b)) Q E s := by
  refine add_lists (vs := vs) (ws := [Value.str x t]) F N (News.isList N h1) (News.isList N h2) (fun h' F' N' => h _ h' F' N' fun p hp => Heap.lt_size (N p hp).1) ?_
  rw [sizeLine_eq]; simp; omega
theorem item0 {value slice : PySem.Expr} (N : News h₀ L s.heap news) (hm : (l, W.listOf vs.toArray c) ∈ news) (hv : vs[0]? = some v) (h : Q v s)
    (hs : subscripted slice false (.ref l) (.int 0 u) = operate [.ref l, .int 0 u] (getItem (.ref l) (.int 0 u)) := by with_unfolding_all rfl) :
    wpAny (model prog w) A (subscriptTail value slice (.ref l) (.int 0 u)) Q E s :=
  item_nat (k := 0) N hm hv (by decide) h hs
end
theorem heads_eq (rs : List RuleD) : (rs.map ruleD).map fHead = (rs.map ruleLD).map fHead := by
  rw [List.map_map, List.map_map]; rfl
theorem pair_fine {p : Dat} (h : PairOk p) : kqdOk 3 p = true := by
  obtain ⟨a, b, rfl, ha, hb⟩ := h
  simp only [kqdOk, List.all_cons, List.all_nil, ha, hb, Bool.and_self]
theorem kqd_up : ∀ (n : Nat) (d : Dat), kqdOk n d = true → kqdOk (n + 1) d = true := by
  intro n
  induction n with
  | zero => intro d h; cases d <;> simp_all [kqdOk]
  | succ n ih =>
    intro d h
    cases d with
    | tuple ds => 
      have h' : ds.all (kqdOk n) = true := h
      show ds.all (kqdOk (n + 1)) = true
      rw [List.all_eq_true] at h' ⊢
      exact fun x hx => ih x (h' x hx)
    | list ds =>
      have h' : ds.all (kqdOk n) = true := h
      show ds.all (kqdOk (n + 1)) = true
      rw [List.all_eq_true] at h' ⊢
      exact fun x hx => ih x (h' x hx)
    | none => rfl
    | int i => rfl
    | str x => simpa [kqdOk] using h
    | bool b => simp [kqdOk] at h
    | bytes b => simp [kqdOk] at h
theorem kqd_le {n m : Nat} {d : Dat} (h : kqdOk n d = true) (k : n ≤ m) : kqdOk m d = true := by
  obtain ⟨j, rfl⟩ : ∃ j, m = n + j := ⟨m - n, by omega⟩
  clear k
  induction j with
  | zero => exact h
  | succ j ih => exact kqd_up _ _ ih
noncomputable def fAltL : Dat → Dat
  | .tuple [.list ps, .list qs] => .tuple [.tuple ps, qs.headD (.str (S ""))]
  | d => d
noncomputable def fPlain : Dat → Dat
  | .tuple [.tuple [h, _], .list as] => .tuple [h, .tuple (as.map fAltL)]
  | d => d
theorem plain_eq : ∀ (rs : List RuleD), (∀ r ∈ rs, PairOk r.1) → (rs.map ruleD).map fRule = (rs.map ruleLD).map fPlain
  | [], _ => rfl
  | (h, als) :: rs, hp => by
    rw [List.map_cons, List.map_cons, List.map_cons, List.map_cons, plain_eq rs fun r hr => hp r (.tail _ hr)]
    obtain ⟨a, b, e, _, _⟩ := hp _ (.head _)
    dsimp only at e
    subst e
    congr 1
    show Dat.tuple [a, .tuple ((als.map altD).map fAlt)] = Dat.tuple [a, .tuple ((als.map altLD).map fAltL)]
    rw [List.map_map, List.map_map]; rfl
/-- what stands before each turn of the loop that makes plain -/
noncomputable def PlJ (pl xt D lv : Addr) (r9 fz6 : List (Addr × Obj)) (dsL : List Dat) (i : Nat) (m' : Str → Option Value) (n' : List (Addr × Obj)) : Prop :=
  ∃ ys c nw, n' = (pl, W.listOf (List.toArray ys) c) :: (nw ++ r9) ∧ (∀ q ∈ nw, q.1 ≠ pl) ∧ Fresh nw r9 ∧ DatAll (nw ++ fz6) ys ((dsL.take i).map fPlain) ∧ m' (S "plain") = some (.ref pl) ∧ m' (S "tree") = some (.ref xt) ∧ m' (S "decls") = some (.ref D) ∧ m' (S "leads") = some (.ref lv)
theorem map4 {m : Str → Option Value} {a b c d : Str} {va vb vc vd : Option Value} (ha : m a = va) (hb : m b = vb) (hc : m c = vc) (hd : m d = vd) :
    m = fun y => if y = a then va else if y = b then vb else if y = c then vc else if y = d then vd else m y := by
  funext y
  by_cases q : y = a
  · rw [if_pos q, q, ha]
  rw [if_neg q]
  by_cases q : y = b
  · rw [if_pos q, q, hb]
  rw [if_neg q]
  by_cases q : y = c
  · rw [if_pos q, q, hc]
  rw [if_neg q]
  by_cases q : y = d
  · rw [if_pos q, q, hd]
  rw [if_neg q]
theorem pl_order {h₀ h : Heap} {L : Addr} {x a b : Addr × Obj} {p q : List (Addr × Obj)} (N : News h₀ L h (x :: (p ++ a :: b :: q))) : News h₀ L h (b :: x :: a :: (p ++ q)) := fun z hz => N z (by
  simp only [List.mem_cons, List.mem_append] at hz ⊢
  rcases hz with h | h | h | h | h <;> simp [h])
section
variable {prog : Program} {w : World} {A : Around} {E : Value → Shared → Prop} {Q : Flow → Shared → Prop} {s : Shared} {env : Env} {h₀ : Heap} {target : PySem.Expr} {body : List Stmt}
theorem for_plain {pl R xt D lv : Addr} {vsL : List Value} {cL : Nat} {dsL : List Dat} {m₀ : Str → Option Value} {r9 fz6 : List (Addr × Obj)}
    (hh : A.handled = none) (F : Fr h₀ env.locals s.heap m₀) (N : News h₀ env.locals s.heap ((pl, W.listOf #[] 0) :: r9)) (l1 : ∀ p ∈ r9, p.1 < pl) (hm : (R, W.listOf vsL.toArray cL) ∈ r9) (hd : DatAll fz6 vsL dsL)
    (p1 : m₀ (S "plain") = some (.ref pl)) (p2 : m₀ (S "tree") = some (.ref xt)) (p3 : m₀ (S "decls") = some (.ref D)) (p4 : m₀ (S "leads") = some (.ref lv))
    (step : ∀ I v d m₁ ys c nw h₁ tk₁ it, d ∈ dsL → DatIn fz6 v d → ys.length < dsL.length → (∀ q ∈ nw, q.1 ≠ pl) → Fresh nw r9 → m₁ (S "plain") = some (.ref pl) → m₁ (S "tree") = some (.ref xt) → m₁ (S "decls") = some (.ref D) → m₁ (S "leads") = some (.ref lv) →
      (∀ p ∈ nw ++ r9, p.1 ≠ I) → pl ≠ I → Fr h₀ env.locals h₁ m₁ → News h₀ env.locals h₁ ((I, it) :: (pl, W.listOf ys.toArray c) :: (nw ++ r9)) →
      wpAny (model prog w) A (assign target env v) (fun _ s₃ => wpAny (model prog w) A (execs body env) (FStep h₀ env.locals I it { s with heap := h₁, toks := tk₁ }
        (fun m' n' => ∃ y nw2 c', n' = (pl, W.listOf (ys ++ [y]).toArray c') :: (nw2 ++ (nw ++ r9)) ∧ (∀ q ∈ nw2, q.1 ≠ pl) ∧ Fresh nw2 (nw ++ r9) ∧ DatIn (nw2 ++ (nw ++ fz6)) y (fPlain d) ∧ m' (S "plain") = some (.ref pl) ∧ m' (S "tree") = some (.ref xt) ∧ m' (S "decls") = some (.ref D) ∧ m' (S "leads") = some (.ref lv)) Q) E s₃) E { s with heap := h₁, toks := tk₁ })
    (done : ∀ h' tk m' ys c nw, Fresh nw r9 → DatAll (nw ++ fz6) ys (dsL.map fPlain) → m' (S "plain") = some (.ref pl) → m' (S "tree") = some (.ref xt) → m' (S "decls") = some (.ref D) → m' (S "leads") = some (.ref lv) → Fr h₀ env.locals h' m' → News h₀ env.locals h' ((pl, W.listOf ys.toArray c) :: (nw ++ r9)) → Q .next { s with heap := h', toks := tk }) :
    wpAny (model prog w) A (pyIter (.ref R)) (fun it s₂ => TurnsAt prog w A h₀ env target body Q E it s₂) E s := by
  have hl := hd.length
  refine for_list (J := PlJ pl xt D lv r9 fz6 dsL) hh F N (.tail _ hm) rfl rfl ?_ ⟨[], 0, [], rfl, fun _ h => (nomatch h), .nil, .nil, p1, p2, p3, p4⟩ ?_ ?_
  · rintro i m n' ⟨_, _, nw, rfl, _⟩
    exact .tail _ (List.mem_append_right nw hm)
  · rintro I i v m₁ n₁ h₁ tk₁ it hv ⟨ys, c, nw, rfl, hp, hf, hys, q1, q2, q3, q4⟩ hI hlt F₁ N₁
    obtain ⟨d, hdi, hdm, hdv⟩ := dat_at hd (by rw [List.getElem?_toArray]; exact hv)
    have hyl := hys.length
    have hin := (List.getElem?_eq_some_iff.mp hdi).1
    rw [List.length_map, List.length_take] at hyl
    refine wpAny_mono (step I v d m₁ ys c nw h₁ tk₁ it hdm hdv (by omega) hp hf q1 q2 q3 q4 (fun p hp => hI p (.tail _ hp)) (hI _ (.head _)) F₁ N₁) (fun _ s₃ q => wpAny_mono q (fun f s₄ r => ?_) fun _ _ e => e) fun _ _ e => e
    have e : dsL.take (i + 1) = dsL.take i ++ [d] := by simp [List.take_add_one, hdi]
    have fin : ∀ (m' : Str → Option Value) (n' : List (Addr × Obj)), (∃ y nw2 c', n' = (pl, W.listOf (ys ++ [y]).toArray c') :: (nw2 ++ (nw ++ r9)) ∧ (∀ q ∈ nw2, q.1 ≠ pl) ∧ Fresh nw2 (nw ++ r9) ∧ DatIn (nw2 ++ (nw ++ fz6)) y (fPlain d) ∧ m' (S "plain") = some (.ref pl) ∧ m' (S "tree") = some (.ref xt) ∧ m' (S "decls") = some (.ref D) ∧ m' (S "leads") = some (.ref lv)) → PlJ pl xt D lv r9 fz6 dsL (i + 1) m' n' := by
      rintro m' n' ⟨y, nw2, c', rfl, a1, a2, a3, a4, a5, a6, a7⟩
      refine ⟨ys ++ [y], c', nw2 ++ nw, by rw [List.append_assoc], fun q hq => (List.mem_append.mp hq).elim (a1 q) (hp q), (a2.sub fun p hp => List.mem_append_right _ hp).app hf, ?_, a4, a5, a6, a7⟩
      rw [e, List.map_append, List.map_singleton, List.append_assoc]
      exact (hys.mono fun p hp => List.mem_append_right _ hp).append (.one a3)
    cases f with
    | ret v => exact r
    | brk => exact r
    | next => obtain ⟨h', tk, m', n', e1, e2, e3, e4, e5⟩ := r; exact ⟨h', tk, m', n', e1, e2, e3, e4, fin _ _ e5⟩
    | cont => obtain ⟨h', tk, m', n', e1, e2, e3, e4, e5⟩ := r; exact ⟨h', tk, m', n', e1, e2, e3, e4, fin _ _ e5⟩
  · rintro h' tk m' n' F' N' ⟨ys, c, nw, rfl, hp, hf, hys, q1, q2, q3, q4⟩
    rw [hl, List.take_length] at hys
    exact done h' tk m' ys c nw hf hys q1 q2 q3 q4 F' N'
end
theorem alt_end {h₀ h' : Heap} {L T1 l1 D1 T3 : Addr} {o1 : Obj} {vsp : List Value} {x : Value} {X : Dat} {ps : List Dat} {led r0 : List (Addr × Obj)} {m : Str → Option Value} {s₁ : Shared} {tk : Nat} {o2 : Obj} (F : Fr h₀ L h' m)
    (N : News h₀ L h' ((T3, ({ cls := .type "tuple", data := .seq #[.ref T1, x] } : Obj)) :: (D1, o2) :: (l1, o1) :: (T1, ({ cls := .type "tuple", data := .seq vsp.toArray } : Obj)) :: led))
    (a1 : AllLt T1 led) (a2 : AllLt l1 ((T1, ({ cls := .type "tuple", data := .seq vsp.toArray } : Obj)) :: led)) (a3 : AllLt D1 ((l1, o1) :: (T1, ({ cls := .type "tuple", data := .seq vsp.toArray } : Obj)) :: led)) (a4 : AllLt T3 ((D1, o2) :: (l1, o1) :: (T1, ({ cls := .type "tuple", data := .seq vsp.toArray } : Obj)) :: led))
    (hp : DatAll r0 vsp ps) (hx : DatIn r0 x X) : EltPost h₀ L m s₁ led r0 (.tuple [.tuple ps, X]) (.ref T3) { s₁ with heap := h', toks := tk } :=
  EltPost.mk [_, _, _, _] F N (Fresh.cons a4 (Fresh.cons a3 (Fresh.cons a2 (Fresh.lt a1)))) (DatIn.tuple (vs := [_, _]) (.head _) (.cons (DatIn.tuple (.tail _ (.tail _ (.tail _ (.head _)))) (hp.mono fun _ h => mem_tl (mem_tl (mem_tl (mem_tl h))))) (.cons (hx.mono fun _ h => mem_tl (mem_tl (mem_tl (mem_tl h)))) .nil)))
theorem plain_end {h₀ h' : Heap} {L T1 T2 pl D10 I2 xt D lv : Addr} {it2 : Obj} {vx : Value} {X : Dat} {es : List Dat} {ys10 ysp : List Value} {c' : Nat} {nw10 q9 fz : List (Addr × Obj)} {d : Dat} {m' : Str → Option Value} (_ : Fr h₀ L h' m')
    (N : News h₀ L h' ((T2, ({ cls := .type "tuple", data := .seq #[vx, .ref T1] } : Obj)) :: (T1, ({ cls := .type "tuple", data := .seq ys10.toArray } : Obj)) :: (pl, W.listOf (ysp.toArray.push (.ref T2)) c') :: (D10, lst ys10) :: (I2, it2) :: (nw10 ++ q9)))
    (a1 : AllLt T1 ((pl, W.listOf ysp.toArray c') :: (D10, lst ys10) :: (I2, it2) :: (nw10 ++ q9))) (a2 : AllLt T2 ((T1, ({ cls := .type "tuple", data := .seq ys10.toArray } : Obj)) :: (pl, W.listOf ysp.toArray c') :: (D10, lst ys10) :: (I2, it2) :: (nw10 ++ q9)))
    (hD : D10 ≠ pl) (hDI : D10 ≠ I2) (hDq : ∀ p ∈ q9, p.1 ≠ D10) (hn1 : ∀ q ∈ nw10, q.1 ≠ pl) (hn2 : ∀ q ∈ nw10, q.1 ≠ I2) (hf : Fresh nw10 q9) (hI : ∀ p ∈ q9, p.1 ≠ I2) (hpI : pl ≠ I2)
    (hx : DatIn fz vx X) (hy : DatAll (nw10 ++ fz) ys10 es) (hd : fPlain d = .tuple [X, .tuple es])
    (p1 : m' (S "plain") = some (.ref pl)) (p2 : m' (S "tree") = some (.ref xt)) (p3 : m' (S "decls") = some (.ref D)) (p4 : m' (S "leads") = some (.ref lv)) :
    ∃ n', News h₀ L h' ((I2, it2) :: n') ∧ (∀ p ∈ n', p.1 ≠ I2) ∧ ∃ y nw2 c', n' = (pl, W.listOf (ysp ++ [y]).toArray c') :: (nw2 ++ q9) ∧ (∀ q ∈ nw2, q.1 ≠ pl) ∧ Fresh nw2 q9 ∧ DatIn (nw2 ++ fz) y (fPlain d) ∧ m' (S "plain") = some (.ref pl) ∧ m' (S "tree") = some (.ref xt) ∧ m' (S "decls") = some (.ref D) ∧ m' (S "leads") = some (.ref lv) := by
  rw [pushL] at N
  obtain ⟨b1, b2, b3, b4⟩ := a1
  obtain ⟨g0, g1, g2, g3, g4⟩ := a2
  refine ⟨(pl, W.listOf (ysp ++ [Value.ref T2]).toArray c') :: (((T2, tupO #[vx, .ref T1] 0) :: (T1, tupO ys10.toArray 0) :: (D10, lst ys10) :: nw10) ++ q9), fun p hp => N p ?_, ?_, .ref T2, _, c', rfl, ?_, ?_, ?_, p1, p2, p3, p4⟩
  · simp only [List.mem_cons, List.mem_append, List.cons_append] at hp ⊢
    rcases hp with h | h | h | h | h | h | h <;> simp [h]
  · intro p hp
    simp only [List.mem_cons, List.mem_append, List.cons_append] at hp
    rcases hp with rfl | rfl | rfl | rfl | h | h
    · exact hpI
    · exact Nat.ne_of_gt g3
    · exact Nat.ne_of_gt b3
    · exact hDI
    · exact hn2 p h
    · exact hI p h
  · simp only [List.forall_mem_cons]
    exact ⟨Nat.ne_of_gt g1, Nat.ne_of_gt b1, hD, hn1⟩
  · exact Fresh.consA (fun p hp => Nat.ne_of_lt (ltOf g4 p (List.mem_append_right _ hp))) (Fresh.consA (fun p hp => Nat.ne_of_lt (ltOf b4 p (List.mem_append_right _ hp))) (Fresh.consA hDq hf))
  · rw [hd]
    exact DatIn.tuple (vs := [_, _]) (.head _) (.cons (hx.mono fun p hp => mem_tl (mem_tl (mem_tl (List.mem_append_right _ hp)))) (.cons (DatIn.tuple (.tail _ (.head _)) (hy.mono fun p hp => mem_tl (mem_tl (mem_tl hp)))) .nil))
end

section
theorem start_Lf : True := by
  w_top off
  k_with_none
  (k_with "k_room!" => (((try simp only [depth_under_make, depth_under_kw, depth_in1, depth_deeper, depth_caller]); (try dsimp only [ktrTop]); omega)))
  (k_with "ktr_room!" => (((try simp only [depth_under_make, depth_under_kw, depth_in1, depth_deeper, depth_caller]); (try dsimp only [ktrTop]); omega)))
  (k_with "ktr_units!" => (((try simp only [units_in1, units_deeper, Around.mark_units, units_caller]); (try dsimp only [ktrTop]); omega)))
  (k_with "ktr_rel!" => (first | k_asm | exact rot1 (by k_asm) | exact rot2 (by k_asm) | exact rot3 (by k_asm)))
  (k_with "tb_rel!" => (first | k_asm | exact fun _ h => h | (intro p hp; k_mem)))
  (k_with "size_fits!" => (((try simp only [List.size_toArray, List.length_append, List.length_cons, List.length_nil, PySem.sizeLine_eq]); omega)))
  trivial
open PySem PySem.W PyProof.Rows PySem.Spec
set_option maxRecDepth 100000
theorem TreeIn.mono {fz fz' : List (Addr × Obj)} {v : Value} {ds rs : List Dat} (h : TreeIn fz v ds rs) (s : ∀ p ∈ fz, p ∈ fz') : TreeIn fz' v ds rs := by
  obtain ⟨xt, dxt, dl, rl, h1, h2, q1, q2, e, a, b, c, d⟩ := h
  exact ⟨xt, dxt, dl, rl, h1, h2, q1, q2, e, s _ a, s _ b, c.mono s, d.mono s⟩
theorem ROk.ok {n : Nat} {r : RuleD} (h : ROk n r) (hn : n < 900) : OkRule r := by
  obtain ⟨a, b, e, _, _⟩ := h.h
  exact ⟨⟨a, b, e⟩, Nat.lt_of_le_of_lt h.l hn, fun al ha => ⟨Nat.lt_of_le_of_lt (h.a al ha).l hn, fun p hp => by
    obtain ⟨a, b, e, _, _⟩ := (h.a al ha).p p hp
    exact ⟨a, b, e⟩⟩⟩
theorem kqd_tup {n : Nat} {ds : List Dat} (h : ∀ d ∈ ds, kqdOk n d = true) : kqdOk (n + 1) (.tuple ds) = true := by simpa [kqdOk] using h
theorem decls_fine {n : Nat} {ds : List DeclD} (h : ∀ d ∈ ds, DOk n d) : kqdOk 8 (.tuple ((ds.map declD).map fDecl)) = true := by
  refine kqd_tup fun d hd => ?_
  obtain ⟨y, hy, rfl⟩ := List.mem_map.mp hd
  obtain ⟨x, hx, rfl⟩ := List.mem_map.mp hy
  have k := h x hx
  show kqdOk 7 (.tuple [x.1, .tuple x.2]) = true
  refine kqd_tup fun e he => ?_
  simp only [List.mem_cons, List.not_mem_nil, or_false] at he
  rcases he with rfl | rfl
  · exact kqd_le k.h (by decide)
  · exact kqd_tup fun e he => kqd_le (k.i e he) (by decide)
theorem rules_fine {n : Nat} {rs : List RuleD} (h : ∀ r ∈ rs, ROk n r) : kqdOk 8 (.tuple ((rs.map ruleD).map fRule)) = true := by
  refine kqd_tup fun d hd => ?_
  obtain ⟨y, hy, rfl⟩ := List.mem_map.mp hd
  obtain ⟨⟨hh, als⟩, hx, rfl⟩ := List.mem_map.mp hy
  have k := h _ hx
  obtain ⟨a, b, e, ka, kb⟩ := k.h
  dsimp only at e
  subst e
  show kqdOk 7 (.tuple [a, .tuple ((als.map altD).map fAlt)]) = true
  refine kqd_tup fun e he => ?_
  simp only [List.mem_cons, List.not_mem_nil, or_false] at he
  rcases he with rfl | rfl
  · exact kqd_le ka (by decide)
  · refine kqd_tup fun e he => ?_
    obtain ⟨z, hz, rfl⟩ := List.mem_map.mp he
    obtain ⟨al, hal, rfl⟩ := List.mem_map.mp hz
    have ko := k.a al hal
    show kqdOk 5 (.tuple [.tuple al.1, al.2.headD (.str (S ""))]) = true
    refine kqd_tup fun e he => ?_
    simp only [List.mem_cons, List.not_mem_nil, or_false] at he
    rcases he with rfl | rfl
    · exact kqd_tup fun e he => pair_fine (ko.p e he)
    · cases hq : al.2 with
      | nil => decide +kernel
      | cons q qs => exact kqd_le (ko.q q (by rw [hq]; exact .head _)) (by decide)
theorem last_ne {prog : Program} {w : World} {A₁ : Around} {E Q : Value → Shared → Prop} {s : Shared} {h₀ : Heap} {L T3 T2 T1 D14 t13 : Addr} {ysp ys14 : List Value} {nw14 r13 fzA fzB : List (Addr × Obj)} {A B B' : List Dat}
    (N : News h₀ L s.heap ((T3, ({ cls := .type "tuple", data := .seq #[Value.ref T1, Value.ref T2] } : Obj)) :: (T2, ({ cls := .type "tuple", data := .seq ysp.toArray } : Obj)) :: (T1, ({ cls := .type "tuple", data := .seq ys14.toArray } : Obj)) :: (D14, ({ cls := .type "list", data := .seq ys14.toArray ys14.length } : Obj)) :: (nw14 ++ r13)))
    (hd13 : DatIn r13 (.ref t13) (.tuple [.tuple A, .tuple B])) (hA : DatAll fzA ys14 A) (sA : ∀ p ∈ fzA, p ∈ nw14 ++ r13) (hB : DatAll fzB ysp B') (sB : ∀ p ∈ fzB, p ∈ nw14 ++ r13) (e : B = B') (kA : kqdOk 8 (.tuple A) = true) (kB : kqdOk 8 (.tuple B) = true) (hu : A₁.units + 64 < cLine) (h : Q (.bool false) s) :
    wpAny (model prog w) A₁ (compareOp .NotEq (.ref t13) (.ref T3)) Q E s := by
  subst e
  have s4 : ∀ p ∈ nw14 ++ r13, p ∈ (T3, ({ cls := .type "tuple", data := .seq #[Value.ref T1, Value.ref T2] } : Obj)) :: (T2, ({ cls := .type "tuple", data := .seq ysp.toArray } : Obj)) :: (T1, ({ cls := .type "tuple", data := .seq ys14.toArray } : Obj)) :: (D14, ({ cls := .type "list", data := .seq ys14.toArray ys14.length } : Obj)) :: (nw14 ++ r13) := fun p hp => mem_tl (mem_tl (mem_tl (mem_tl hp)))
  have Db : DatIn ((T3, ({ cls := .type "tuple", data := .seq #[Value.ref T1, Value.ref T2] } : Obj)) :: (T2, ({ cls := .type "tuple", data := .seq ysp.toArray } : Obj)) :: (T1, ({ cls := .type "tuple", data := .seq ys14.toArray } : Obj)) :: (D14, ({ cls := .type "list", data := .seq ys14.toArray ys14.length } : Obj)) :: (nw14 ++ r13)) (.ref T3) (.tuple [.tuple A, .tuple B]) :=
    DatIn.tuple (vs := [_, _]) (.head _) (.cons (DatIn.tuple (.tail _ (.tail _ (.head _))) (hA.mono fun p hp => s4 p (sA p hp))) (.cons (DatIn.tuple (.tail _ (.head _)) (hB.mono fun p hp => s4 p (sB p hp))) .nil))
  refine ne_tup N hd13 Db (fun p hp => s4 p (List.mem_append_right _ hp)) (fun _ h => h) (fun d hd => ?_) rfl hu h
  simp only [List.mem_cons, List.not_mem_nil, or_false] at hd
  rcases hd with rfl | rfl
  · exact kA
  · exact kB
end

section
theorem start_Lw : True := by
  w_top off
  k_with_none
  (k_with "k_room!" => (((try simp only [depth_under_make, depth_under_kw, depth_in1, depth_deeper, depth_caller]); (try dsimp only [ktrTop]); omega)))
  (k_with "ktr_room!" => (((try simp only [depth_under_make, depth_under_kw, depth_in1, depth_deeper, depth_caller]); (try dsimp only [ktrTop]); omega)))
  (k_with "ktr_units!" => (((try simp only [units_in1, units_deeper, Around.mark_units, units_caller]); (try dsimp only [ktrTop]); omega)))
  (k_with "ktr_rel!" => (first | k_asm | exact rot1 (by k_asm) | exact rot2 (by k_asm) | exact rot3 (by k_asm)))
  (k_with "tb_rel!" => (first | k_asm | exact fun _ h => h | (intro p hp; k_mem)))
  (k_with "size_fits!" => (((try simp only [List.size_toArray, List.length_append, List.length_cons, List.length_nil, PySem.sizeLine_eq]); omega)))
  (k_with "call ref!" => (k_here; (try dsimp only [List.nil_append, List.cons_append]); (with_reducible show wpAny _ _ (call (Value.ref 179) _ _) _ _ _); k_dflt (refine' kind_c ?zzC ?zzF ?zzN ?zzhf ?zzR ?zzhv ?_; (case zzF => k_asm); (case zzN => ktr_rel); (case zzC => tb_start); (case zzR => k_asm); (case zzhf => tb_rel); (case zzhv => assumption); k_whole; intro _ _ _ _ _; (try k_sweep))))
  (k_with "call ref!" => (k_here; (try dsimp only [List.nil_append, List.cons_append]); (with_reducible show wpAny _ _ (call (Value.ref 186) _ _) _ _ _); k_dflt (refine' take_c ?zzC ?zzF ?zzN ?zzhne ?zzhf ?zzR ?zzhv ?_; (case zzF => k_asm); (case zzN => ktr_rel); (case zzC => tb_start); (case zzR => k_asm); (case zzhf => tb_rel); (case zzhv => assumption); (case zzhne => k_all); k_whole; intro _ _ _ _ _; (try k_sweep))))
  (k_with "call builtin:len!" => (k_here; k_dflt (refine' len_strs ?zzyN ?zzym ?zzyl (fun _ _ => ?_); (case zzyN => k_asm); (case zzym => k_mem); (case zzyl => omega))))
  (k_with "subscriptTail Name Name ref int!" => (k_here; (with_reducible show wpAny _ _ (subscriptTail _ _ (Value.ref _) (Value.int (Nat.cast _) _)) _ _ _); k_dflt (refine' item_nat ?zzk1 ?zzk2 ?zzk3 ?zzk4 ?_ ?zzk6; (case zzk1 => k_asm); (case zzk2 => k_mem); (case zzk3 => with_reducible assumption); (case zzk4 => omega); (case zzk6 => with_unfolding_all rfl))))
  (k_with "subscriptTail Name Name ref str!" => (k_here; k_dflt (refine' item_tabs ?zzyN ?zzys ?zzyT ?zzyk (fun _ _ _ _ _ _ => ?_) ?zzyh ?zzyg; (case zzyN => k_asm); (case zzyT => assumption); (case zzys => first | assumption | (intro p hp; repeat (first | exact hp | exact List.mem_append_right _ hp | refine mem_tl ?_))); (case zzyk => assumption); (case zzyh => with_unfolding_all rfl); (case zzyg => (intro _; with_unfolding_all rfl)))))
  (k_with "compareOp NotIn str ref!" => (k_here; (with_reducible show wpAny _ _ (compareOp _ (Value.str _ _) (Value.ref _)) _ _ _); k_dflt (refine' notin_dstrB ?zzyN ?zzyp ?zzyd ?zzyl ?zzyb (fun _ => ?_); (case zzyN => k_asm); (case zzyb => with_reducible assumption); (case zzyp => with_reducible assumption); (case zzyd => with_reducible assumption); (case zzyl => with_reducible assumption))))
  (k_with "subscriptTail Subscript Subscript ref str!" => (k_here; k_dflt (refine' item_dstr ?zzyN ?zzyp ?zzyd ?zzyk (fun _ _ => ?_) ?zzyh ?zzyg; (case zzyN => k_asm); (case zzyp => with_reducible assumption); (case zzyd => with_reducible assumption); (case zzyk => with_reducible assumption); (case zzyh => with_unfolding_all rfl); (case zzyg => (intro _; with_unfolding_all rfl)))))
  (k_with "exec For Name Call cons nil!" => (k_here; k_dflt (refine' For_turns ?zzzF ?_; (case zzzF => k_asm))))
  (k_with "subscriptTail Name Subscript ref str!" => (k_here; k_dflt (refine' item_dstr ?zzyN ?zzyp ?zzyd ?zzyk (fun _ _ => ?_) ?zzyh ?zzyg; (case zzyN => k_asm); (case zzyp => with_reducible assumption); (case zzyd => with_reducible assumption); (case zzyk => with_reducible assumption); (case zzyh => with_unfolding_all rfl); (case zzyg => (intro _; with_unfolding_all rfl)))))
  (k_with "call type:tuple!" => (k_here; (with_reducible show wpAny _ _ (call (Value.type _) [Value.ref _]) _ _ _); k_dflt (refine' tuple_of ?zzzF ?zzzN ?zzzm ?zzzz (fun zzDq zzhq zzFq zzNq zzl1 => ?_); (case zzzF => k_asm); (case zzzN => k_asm); (case zzzm => k_mem); (case zzzz => omega); (try k_lt zzl1); (revert zzDq zzhq zzFq zzNq zzl1; intro _ _ _ _ _))))
  (k_with "binaryOp Add ref ref!" => (k_here; (with_reducible show wpAny _ _ (binaryOp _ (Value.ref _) (Value.ref _)) _ _ _); k_dflt (refine' add_one ?zzzF ?zzzN ?zzz1 ?zzz2 ?zzzz (fun zzDq zzhq zzFq zzNq zzl1 => ?_); (case zzzF => k_asm); (case zzzN => k_asm); (case zzz1 => k_mem); (case zzz2 => k_mem); (case zzzz => omega); (try k_lt zzl1); (revert zzDq zzhq zzFq zzNq zzl1; intro _ _ _ _ _))))
  trivial
open PySem PySem.W PyProof.Rows PySem.Spec PySem.Calls PyProof.V PyProof.Rows.LCg PyProof.Rows.LCt PyProof.Rows.LCp
set_option maxRecDepth 100000
set_option maxHeartbeats 16000000
theorem ints_of {vs : List Value} {ns : List Int} (h : IntsAre vs ns) : ∃ xs, vs = intsV xs ∧ xs.length = ns.length := by
  induction h with
  | nil => exact ⟨[], rfl, rfl⟩
  | cons n t h ih =>
    obtain ⟨xs, rfl, hl⟩ := ih
    exact ⟨(n, t) :: xs, rfl, by rw [List.length_cons, List.length_cons, hl]⟩
section
variable {prog : Program} {w : World} {A : Around} {E : Value → Shared → Prop} {s : Shared} {h₀ : Heap} {L l b : Addr} {m : Str → Option Value} {news : List (Addr × Obj)} {ks : List (Str × Tok)} {x : Str} {t : Tok} {c c2 : Nat}
theorem add_one {Q : Value → Shared → Prop} (F : Fr h₀ L s.heap m) (N : News h₀ L s.heap news) (h1 : (l, W.listOf (strsV ks).toArray c) ∈ news) (h2 : (b, W.listOf #[.str x t] c2) ∈ news) (hz : ks.length < 1000)
    (h : ∀ D h', Fr h₀ L h' m → News h₀ L h' ((D, W.listOf (strsV (ks ++ [(x, t)])).toArray 0) :: news) → (∀ p ∈ news, p.1 < D) → Q (.ref D) { s with heap := h' }) : wpAny (model prog w) A (binaryOp .Add (.ref l) (.ref b)) Q E s := by
  refine add_lists (vs := strsV ks) (ws := [.str x t]) F N (News.isList N h1) (News.isList N h2) (fun h' F' N' => ?_) ?_
  · refine h _ h' F' (fun p hp => N' p ?_) fun p hp => Heap.lt_size (N p hp).1
    rw [strsV, List.map_append] at hp
    exact hp
  · rw [strsV, List.length_map, sizeLine_eq]; simp; omega
end
theorem perm_tail {h₀ h : Heap} {L : Addr} {f : List (Addr × Obj)} {a b c : Addr × Obj} (N : News h₀ L h (f ++ [a, b, c])) : News h₀ L h (a :: (f ++ [b, c])) := fun p hp => N p (by simp only [List.mem_cons, List.mem_append, List.not_mem_nil, or_false] at hp ⊢; rcases hp with h | h | h | h <;> simp [h])
theorem ap_of {h₀ h : Heap} {L : Addr} : ∀ {l : List (Addr × Obj)}, News h₀ L h l → ∃ l', Ap l' ∧ ∀ p, p ∈ l' ↔ p ∈ l
  | [], _ => ⟨[], .nil, fun _ => Iff.rfl⟩
  | p :: l, N => by
    classical
    obtain ⟨l', a, e⟩ := ap_of (l := l) fun q hq => N q (.tail _ hq)
    by_cases hp : p ∈ l
    · exact ⟨l', a, fun q => (e q).trans ⟨fun h => .tail _ h, fun h => by rcases List.mem_cons.mp h with rfl | h; exact hp; exact h⟩⟩
    · refine ⟨p :: l', List.pairwise_cons.mpr ⟨fun q hq hpq => hp ?_, a⟩, fun q => by rw [List.mem_cons, List.mem_cons, e]⟩
      have h1 := (N p (.head _)).1
      have h2 := (N q (.tail _ ((e q).mp hq))).1
      rw [hpq, h2] at h1
      have : q = p := Prod.ext hpq.symm (Option.some.inj h1)
      exact this ▸ (e q).mp hq
theorem split_cell {h₀ h : Heap} {L c : Addr} {o : Obj} {l : List (Addr × Obj)} (N : News h₀ L h l) (hm : (c, o) ∈ l) : ∃ r0, News h₀ L h ((c, o) :: r0) ∧ Ap ((c, o) :: r0) ∧ ∀ p ∈ l, p ≠ (c, o) → p ∈ r0 := by
  classical
  obtain ⟨l', a, e⟩ := ap_of N
  have hm' := (e _).mpr hm
  have hp := List.perm_cons_erase hm'
  refine ⟨l'.erase (c, o), fun p q => N p ((e p).mp (hp.mem_iff.mpr q)), a.perm hp, fun p q hne => ?_⟩
  rcases List.mem_cons.mp (hp.mem_iff.mp ((e p).mpr q)) with h | h
  · exact absurd h hne
  · exact h
theorem split_two {h₀ h : Heap} {L c d : Addr} {o o' : Obj} {l : List (Addr × Obj)} (N : News h₀ L h l) (hm : (c, o) ∈ l) (hm2 : (d, o') ∈ l) (hcd : d ≠ c) : ∃ r0, News h₀ L h ((c, o) :: (d, o') :: r0) ∧ Ap ((c, o) :: (d, o') :: r0) ∧ ∀ p ∈ l, p ≠ (c, o) → p ≠ (d, o') → p ∈ r0 := by
  classical
  obtain ⟨l', a, e⟩ := ap_of N
  have hm' := (e _).mpr hm
  have hp := List.perm_cons_erase hm'
  have h1 : (d, o') ∈ l'.erase (c, o) := by
    rcases List.mem_cons.mp (hp.mem_iff.mp ((e _).mpr hm2)) with h | h
    · exact absurd (congrArg Prod.fst h) hcd
    · exact h
  have hp2 := hp.trans ((List.perm_cons_erase h1).cons _)
  refine ⟨(l'.erase (c, o)).erase (d, o'), fun p q => N p ((e p).mp (hp2.mem_iff.mpr q)), a.perm hp2, fun p q h2 h3 => ?_⟩
  rcases List.mem_cons.mp (hp2.mem_iff.mp ((e p).mpr q)) with h | h
  · exact absurd h h2
  rcases List.mem_cons.mp h with h | h
  · exact absurd h h3
  · exact h
/-- what stands before each turn of the law's loop -/
inductive LwJ (r0 : List (Addr × Obj)) (cA lv : Addr) (i : Nat) (m' : Str → Option Value) (n' : List (Addr × Obj)) : Prop
  | mk (oc : Obj) (fr : List (Addr × Obj)) (x : Option Value) (h1 : n' = (cA, oc) :: fr) (h2 : oc.data = .cell x) (h3 : ∀ p ∈ fr, p.1 ≠ cA) (h4 : ∀ p ∈ r0, p ∈ fr) (h5 : m' (S "leads") = some (.ref lv)) : LwJ r0 cA lv i m' n'
theorem law_next {h₀ h : Heap} {L I cA lv : Addr} {it oc : Obj} {x : Option Value} {news r0 : List (Addr × Obj)} {i : Nat} {m' : Str → Option Value} (_ : Fr h₀ L h m') (N : News h₀ L h news) (hI : (I, it) ∈ news) (hC : (cA, oc) ∈ news) (hcI : cA ≠ I) (hs : ∀ p ∈ r0, p ∈ news)
    (hrI : ∀ p ∈ r0, p.1 ≠ I) (hrC : ∀ p ∈ r0, p.1 ≠ cA) (hoc : oc.data = .cell x) (hl : m' (S "leads") = some (.ref lv)) : ∃ n', News h₀ L h ((I, it) :: n') ∧ (∀ p ∈ n', p.1 ≠ I) ∧ LwJ r0 cA lv i m' n' := by
  obtain ⟨r1, n1, a1, m1⟩ := split_two N hI hC hcI
  refine ⟨(cA, oc) :: r1, n1, a1.head, oc, r1, x, rfl, hoc, ?_, fun p hp => m1 p (hs p hp) (fun e => hrI p hp (congrArg Prod.fst e)) fun e => hrC p hp (congrArg Prod.fst e), hl⟩
  have a2 : Ap ((cA, oc) :: r1) := (List.pairwise_cons.mp a1).2
  exact a2.head
theorem law_next5 {h₀ h : Heap} {L I cA lv : Addr} {it oc : Obj} {x : Option Value} {q r0 n14 n13 : List (Addr × Obj)} {x1 x2 x3 x4 x5 : Addr × Obj} {i : Nat} {m' : Str → Option Value} (F : Fr h₀ L h m') (N : News h₀ L h (x1 :: x2 :: x3 :: x4 :: (n14 ++ (n13 ++ (x5 :: q))))) (hI : (I, it) ∈ q) (hC : (cA, oc) ∈ q) (hcI : cA ≠ I) (hs : ∀ p ∈ r0, p ∈ q)
    (hrI : ∀ p ∈ r0, p.1 ≠ I) (hrC : ∀ p ∈ r0, p.1 ≠ cA) (hoc : oc.data = .cell x) (hl : m' (S "leads") = some (.ref lv)) : ∃ n', News h₀ L h ((I, it) :: n') ∧ (∀ p ∈ n', p.1 ≠ I) ∧ LwJ r0 cA lv i m' n' :=
  have k : ∀ p ∈ q, p ∈ x1 :: x2 :: x3 :: x4 :: (n14 ++ (n13 ++ (x5 :: q))) := fun p hp => mem_tl (mem_tl (mem_tl (mem_tl (List.mem_append_right n14 (List.mem_append_right n13 (mem_tl hp))))))
  law_next F N (k _ hI) (k _ hC) hcI (fun p hp => k p (hs p hp)) hrI hrC hoc hl
noncomputable def KlAt (r0 : List (Addr × Obj)) (v : Value) : Prop := ∃ kl ks c, v = .ref kl ∧ (kl, W.listOf (strsV ks).toArray c) ∈ r0 ∧ KsOk (ks.map (·.1))
theorem not_cell {c p : Addr} {oc o : Obj} {x : Option Value} {vs : Array Value} {n : Nat} (hoc : oc.data = .cell x) (ho : o.data = .seq vs n) : (p, o) ≠ (c, oc) := fun e => by
  have : o = oc := congrArg Prod.snd e
  rw [this, hoc] at ho
  cases ho
theorem law_start {w : World} {h₀ h : Heap} {L T d1 l0 l1 l2 l3 P kl D3 cA lv : Addr} {oc o3 oP : Obj} {x : Option Value} {ks : List (Str × Tok)} {t0 t1 t2 t3 t4 t5 t6 t7 t8 t9 : Tok} {o13 : Obj} {c : Nat} {nw fz : List (Addr × Obj)}
    (N : News h₀ L h ((T, ({ cls := .type "tuple", data := .seq #[Value.ref d1, Value.ref l2, Value.ref l1, Value.ref l0] } : Obj)) :: (l0, W.listOf #[.str (S "KIND") t0, .str (S "MARK") t1, .str (S "HEAD") t2, .str (S "$end") t3] 0) :: (l1, W.listOf #[.str (S "MARK") t4, .str (S "$end") t5] 0) ::
      (l2, W.listOf #[.str (S "MARK") t6, .str (S "HEAD") t7, .str (S "$end") t8] 0) :: (d1, W.listOf (strsV (ks ++ [(S "$end", t9)])).toArray 0) :: (l3, o13) :: (P, oP) :: (kl, W.listOf (strsV ks).toArray c) :: (nw ++ (fz ++ [(D3, o3), (cA, oc)]))))
    (hoc : oc.data = .cell x) (hfz : ∀ p ∈ fz, p.1 ≠ cA) (hW : TabsIn w fz (.ref lv) waysT) (hk : ks.length ≤ 16) (hk11 : ∀ k ∈ ks, k.1 ∈ kinds11) :
    ∃ r0, News h₀ L h ((cA, oc) :: r0) ∧ (∀ p ∈ r0, p.1 ≠ cA) ∧ (T, ({ cls := .type "tuple", data := .seq #[Value.ref d1, Value.ref l2, Value.ref l1, Value.ref l0] } : Obj)) ∈ r0 ∧ TabsIn w r0 (.ref lv) waysT ∧ ∀ (i : Nat) (v : Value), [Value.ref d1, Value.ref l2, Value.ref l1, Value.ref l0][i]? = some v → KlAt r0 v := by
  obtain ⟨r0, n0, a0, m0⟩ := split_cell (c := cA) (o := oc) N (.tail _ (.tail _ (.tail _ (.tail _ (.tail _ (.tail _ (.tail _ (.tail _ (List.mem_append_right nw (List.mem_append_right fz (.tail _ (.head _)))))))))))) 
  refine ⟨r0, n0, a0.head, m0 _ (.head _) (not_cell hoc rfl), hW.mono fun p hp => m0 p ?_ fun e => hfz p hp (congrArg Prod.fst e), fun i v hv => ?_⟩
  · exact .tail _ (.tail _ (.tail _ (.tail _ (.tail _ (.tail _ (.tail _ (.tail _ (List.mem_append_right nw (List.mem_append_left _ hp)))))))))
  · have hv' := List.mem_of_getElem? hv
    simp only [List.mem_cons, List.not_mem_nil, or_false] at hv'
    rcases hv' with rfl | rfl | rfl | rfl
    · exact ⟨d1, ks ++ [(S "$end", t9)], 0, rfl, m0 _ (.tail _ (.tail _ (.tail _ (.tail _ (.head _))))) (not_cell hoc rfl), ks.map (·.1), by rw [List.map_append]; rfl, fun k hk => by obtain ⟨p, hp, rfl⟩ := List.mem_map.mp hk; exact hk11 p hp, by rw [List.length_map]; exact hk⟩
    · exact ⟨l2, [(S "MARK", t6), (S "HEAD", t7), (S "$end", t8)], 0, rfl, m0 _ (.tail _ (.tail _ (.tail _ (.head _)))) (not_cell hoc rfl), [S "MARK", S "HEAD"], rfl, by decide, by decide⟩
    · exact ⟨l1, [(S "MARK", t4), (S "$end", t5)], 0, rfl, m0 _ (.tail _ (.tail _ (.head _))) (not_cell hoc rfl), [S "MARK"], rfl, by decide, by decide⟩
    · exact ⟨l0, [(S "KIND", t0), (S "MARK", t1), (S "HEAD", t2), (S "$end", t3)], 0, rfl, m0 _ (.tail _ (.head _)) (not_cell hoc rfl), [S "KIND", S "MARK", S "HEAD"], rfl, by decide, by decide⟩
section
variable {prog : Program} {w : World} {A : Around} {E : Value → Shared → Prop} {Q : Flow → Shared → Prop} {s : Shared} {env : Env} {h₀ : Heap} {target : PySem.Expr} {body : List Stmt}
theorem for_law {ax cA lv : Addr} {lo oc : Obj} {x : Option Value} {vs : List Value} {c : Nat} {m₀ : Str → Option Value} {r0 : List (Addr × Obj)}
    (hh : A.handled = none) (F : Fr h₀ env.locals s.heap m₀) (N : News h₀ env.locals s.heap ((cA, oc) :: r0)) (hm : (ax, lo) ∈ r0) (hc : lo.cls = .type "tuple") (hd : lo.data = .seq vs.toArray c) (hoc : oc.data = .cell x) (hne : ∀ p ∈ r0, p.1 ≠ cA) (hld : m₀ (S "leads") = some (.ref lv))
    (step : ∀ I i v m₁ fr oc x h₁ tk₁ it, vs[i]? = some v → oc.data = .cell x → (∀ p ∈ fr, p.1 ≠ cA) → (∀ p ∈ r0, p ∈ fr) → m₁ (S "leads") = some (.ref lv) → (∀ p ∈ (cA, oc) :: fr, p.1 ≠ I) → (@LT.lt Nat _ cA I) → Fr h₀ env.locals h₁ m₁ → News h₀ env.locals h₁ ((I, it) :: (cA, oc) :: fr) →
      wpAny (model prog w) A (assign target env v) (fun _ s₃ => wpAny (model prog w) A (execs body env) (FStep h₀ env.locals I it { s with heap := h₁, toks := tk₁ } (LwJ r0 cA lv (i + 1)) Q) E s₃) E { s with heap := h₁, toks := tk₁ })
    (done : ∀ h' tk m' n', Fr h₀ env.locals h' m' → News h₀ env.locals h' n' → Q .next { s with heap := h', toks := tk }) :
    wpAny (model prog w) A (pyIter (.ref ax)) (fun it s₂ => TurnsAt prog w A h₀ env target body Q E it s₂) E s := by
  refine for_tup (J := LwJ r0 cA lv) hh F N (.tail _ hm) hc hd ?_ ⟨oc, r0, x, rfl, hoc, hne, fun _ h => h, hld⟩ ?_ fun h' tk m' n' F N _ => done h' tk m' n' F N
  · rintro i m n' ⟨_, _, _, rfl, _, _, hs, _⟩
    exact .tail _ (hs _ hm)
  · rintro I i v m₁ n₁ h₁ tk₁ it hv ⟨oc2, fr, x2, rfl, ho, hn, hs, hl⟩ hI hlt F₁ N₁
    exact step I i v m₁ fr oc2 x2 h₁ tk₁ it hv ho hn hs hl hI (hlt _ (.head _)) F₁ N₁
end
local macro_rules | `(tactic| k_mem) => `(tactic| first | with_reducible assumption | with_reducible exact mHd | ((with_reducible show _ ∈ _ :: _); refine' mem_tl ?_; k_mem) | ((with_reducible show _ ∈ _ ++ _); refine' List.mem_append_right _ ?_; k_mem))
local macro_rules | `(tactic| k_qdec) => `(tactic| decide +kernel)
theorem x0 : PySem.Challenge.rw_on0161_01.Holds := Mine.hd (by rfl) (by rfl) (by rfl) (by
  k_go0
  refine abs_QE (by passes_own) fun W0 hW0 V0 hV0 hP0 => ?_
  (repeat' ((fail_if_success (with_reducible show wpAny _ _ (call (Value.ref 250) _ _) _ _ _)); (fail_if_success (with_reducible show wpAny _ _ (call (Value.ref 255) _ _) _ _ _)); (fail_if_success (with_reducible show wpAny _ _ (exec (Stmt.For _ _ _ _ _) _) _ _ _)); first | (k_unfold; (try dsimp only)) | (k_end; kc_close) | walk1 | (dsimp only; walk1) | (leave1; walk_say "STEP leave1"; (try dsimp only)) | (refine useX (by with_reducible assumption) ?_; (try dsimp only)) | fail "no step"))
  refine' ways_c ?zC ?zF ?zN (fun h' tk' v fz' F' N' hfr hW => ?_)
  case zF => k_asm
  case zN => k_asm
  case zC => tb_start
  obtain ⟨lv, olv, kvl, rfl, hW2⟩ := id hW
  clear hW2
  rename IntsAre _ (List.map _ _) => hI9
  obtain ⟨xs, rfl, hxl⟩ := ints_of hI9
  have hx24 : xs.length < 100 := by rw [hxl, List.length_map, List.length_take]; omega
  (repeat' ((fail_if_success (with_reducible show wpAny _ _ (call (Value.ref 250) _ _) _ _ _)); (fail_if_success (with_reducible show wpAny _ _ (call (Value.ref 255) _ _) _ _ _)); (fail_if_success (with_reducible show wpAny _ _ (exec (Stmt.For _ _ _ _ _) _) _ _ _)); first | (k_unfold; (try dsimp only)) | (k_end; kc_close) | walk1 | (dsimp only; walk1) | (leave1; walk_say "STEP leave1"; (try dsimp only)) | (refine useX (by with_reducible assumption) ?_; (try dsimp only)) | fail "no step"))
  refine' For_turns ?zF ?_
  case zF => k_asm
  (repeat' ((fail_if_success (with_reducible show wpAny _ _ (pyIter _) _ _ _)); (fail_if_success (with_reducible show wpAny _ _ (call (Value.ref 255) _ _) _ _ _)); first | (k_unfold; (try dsimp only)) | (k_end; kc_close) | walk1 | (dsimp only; walk1) | (leave1; walk_say "STEP leave1"; (try dsimp only)) | (refine useX (by with_reducible assumption) ?_; (try dsimp only)) | fail "no step"))
  rename News _ _ _ (fz' ++ _) => N9
  have N10 := perm_tail N9
  refine' drawn_c ?zC ?zF N10 ?zne hx24 (hW.mono fun p hp => List.mem_append_left _ hp) (fun h' tk' xs' n' kl c nw ks F' N' hfr2 hk16 hk11 => ?_)
  case zF => k_asm
  case zC => tb_start
  case zne =>
    intro p hp
    rcases List.mem_append.mp hp with hp | hp
    · exact fun e => hfr p hp _ (.head _) e.symm
    · rename _ ≠ _ ∧ _ ≠ _ => o1
      simp only [List.mem_cons, List.not_mem_nil, or_false] at hp
      rcases hp with rfl | rfl
      · exact o1.1
      · exact o1.2
  (repeat' ((fail_if_success (with_reducible show wpAny _ _ (pyIter _) _ _ _)); (fail_if_success (with_reducible show wpAny _ _ (call (Value.ref 255) _ _) _ _ _)); first | (k_unfold; (try dsimp only)) | (k_end; kc_close) | walk1 | (dsimp only; walk1) | (leave1; walk_say "STEP leave1"; (try dsimp only)) | (refine useX (by with_reducible assumption) ?_; (try dsimp only)) | fail "no step"))
  rename _ = Data.cell _ => hoc
  obtain ⟨r0, N21, hne0, hT0, hW0, hk0⟩ := law_start (by assumption) hoc (fun p hp e => hfr p hp _ (.tail _ (.tail _ (.head _))) e.symm) hW hk16 hk11
  dsimp only at N21 hne0
  refine' for_law rfl ?jF N21 hT0 rfl (vs := [_, _, _, _]) rfl hoc hne0 ?jL ?jstep ?jdone
  case jF => k_asm
  case jL => with_unfolding_all rfl
  case jdone =>
    intro h9 tk9 m9 n9 F9 N9
    (repeat' ((fail_if_success (with_reducible show wpAny _ _ (call (Value.ref 250) _ _) _ _ _)); (fail_if_success (with_reducible show wpAny _ _ (call (Value.ref 255) _ _) _ _ _)); (fail_if_success (with_reducible show wpAny _ _ (exec (Stmt.For _ _ _ _ _) _) _ _ _)); first | (k_unfold; (try dsimp only)) | (k_end; kc_close) | walk1 | (dsimp only; walk1) | (leave1; walk_say "STEP leave1"; (try dsimp only)) | (refine useX (by with_reducible assumption) ?_; (try dsimp only)) | fail "no step"))
  case jstep =>
    intro I i v m₁ fr oc x h₁ tk₁ it hv hoc2 hne hsub hld hIn hIlt F₁ N₁
    obtain ⟨kl, ks, c, rfl, hkl, hks⟩ := hk0 i v hv
    rw [map1 hld] at F₁
    have hkl1 := hsub _ hkl
    have hW1 := hW0.mono hsub
    clear hT0 N21 hW0 hW hfr hoc
    refine abs_body fun W9 hW9 => ?_
    have hl17 : ks.length ≤ 17 := by have := hks.len; rwa [List.length_map] at this
    (repeat' ((fail_if_success (with_reducible show wpAny _ _ (exec (Stmt.For _ _ _ _ _) _) _ _ _)); (fail_if_success (with_reducible show wpAny _ _ (pyIter _) _ _ _)); (fail_if_success (with_reducible show wpAny _ _ (call (Value.ref 276) _ _) _ _ _)); (fail_if_success (with_reducible show wpAny _ _ (call (Value.ref 200) _ _) _ _ _)); (fail_if_success (with_reducible show wpAny _ _ (call (Value.ref 262) _ _) _ _ _)); (fail_if_success (with_reducible show wpAny _ _ (call (Value.ref 146) _ _) _ _ _)); (fail_if_success (with_reducible show wpAny _ _ (eval (PySem.Expr.ListComp _ _ _ _) _) _ _ _)); (fail_if_success (with_reducible show wpAny _ _ (exec (Stmt.Assign _ (PySem.Expr.ListComp _ _ _ _) _) _) _ _ _)); (fail_if_success (with_reducible show CompSrc _ _ _ _ _ _ _ _ _ _ _ _ _ _)); (fail_if_success (with_reducible show SrcLP _ _ _ _ _ _ _ _ _ _ _ _ _ _ _)); (fail_if_success (with_reducible show EltPost _ _ _ _ _ _ _ _ _)); (fail_if_success (with_reducible show wpAny _ _ (noteFrame _ _) _ _ _)); (fail_if_success (with_reducible show wpAny _ _ (subscriptTail (PySem.Expr.BinOp _ _ _ _) _ (Value.ref _) _) _ _ _)); (fail_if_success (with_reducible show wpAny _ _ (binaryOp Operator.Add (Value.ref _) (Value.ref _)) _ _ _)); (fail_if_success (with_reducible show wpAny _ _ (compareOp CmpOp.NotEq (Value.ref _) (Value.ref _)) _ _ _)); first | (k_unfold; (try dsimp only)) | (k_end; kc_close) | walk1 | (dsimp only; walk1) | (leave1; walk_say "STEP leave1"; (try dsimp only)) | (refine useX (by with_reducible assumption) ?_; (try dsimp only)) | fail "no step"))
    refine LCg.Assign_ListComp_U (F₀ := by k_asm) (by rfl) (by with_unfolding_all rfl) (by with_unfolding_all rfl) (by decide) (by rfl) (by decide) (by rfl) (by rfl) (by rfl) ?_
    (repeat' ((fail_if_success (with_reducible show wpAny _ _ (exec (Stmt.For _ _ _ _ _) _) _ _ _)); (fail_if_success (with_reducible show wpAny _ _ (pyIter _) _ _ _)); (fail_if_success (with_reducible show wpAny _ _ (call (Value.ref 276) _ _) _ _ _)); (fail_if_success (with_reducible show wpAny _ _ (call (Value.ref 200) _ _) _ _ _)); (fail_if_success (with_reducible show wpAny _ _ (call (Value.ref 262) _ _) _ _ _)); (fail_if_success (with_reducible show wpAny _ _ (call (Value.ref 146) _ _) _ _ _)); (fail_if_success (with_reducible show wpAny _ _ (eval (PySem.Expr.ListComp _ _ _ _) _) _ _ _)); (fail_if_success (with_reducible show wpAny _ _ (exec (Stmt.Assign _ (PySem.Expr.ListComp _ _ _ _) _) _) _ _ _)); (fail_if_success (with_reducible show CompSrc _ _ _ _ _ _ _ _ _ _ _ _ _ _)); (fail_if_success (with_reducible show SrcLP _ _ _ _ _ _ _ _ _ _ _ _ _ _ _)); (fail_if_success (with_reducible show EltPost _ _ _ _ _ _ _ _ _)); (fail_if_success (with_reducible show wpAny _ _ (noteFrame _ _) _ _ _)); (fail_if_success (with_reducible show wpAny _ _ (subscriptTail (PySem.Expr.BinOp _ _ _ _) _ (Value.ref _) _) _ _ _)); (fail_if_success (with_reducible show wpAny _ _ (binaryOp Operator.Add (Value.ref _) (Value.ref _)) _ _ _)); (fail_if_success (with_reducible show wpAny _ _ (compareOp CmpOp.NotEq (Value.ref _) (Value.ref _)) _ _ _)); first | (k_unfold; (try dsimp only)) | (k_end; kc_close) | walk1 | (dsimp only; walk1) | (leave1; walk_say "STEP leave1"; (try dsimp only)) | (refine useX (by with_reducible assumption) ?_; (try dsimp only)) | fail "no step"))
    rename News _ _ _ _ => N30
    rename _ = Data.cell _ => hcell
    refine' srcT rfl ?zF N30 (by assumption) (by omega) (fun i3 kd tkd t3 I3 oI3 C3 oC3 D3 ys3 nw3 m3 h3 tk3 E3 hi3 hx3 hfr3 hoC3 hm3 F3 N3 hoff3 hne3 => ?_) (fun nw3 ys3 toks g3 hfr3 hTs hks3 => ?_)
    case zF => k_asm
    · (repeat' ((fail_if_success (with_reducible show wpAny _ _ (exec (Stmt.For _ _ _ _ _) _) _ _ _)); (fail_if_success (with_reducible show wpAny _ _ (pyIter _) _ _ _)); (fail_if_success (with_reducible show wpAny _ _ (call (Value.ref 276) _ _) _ _ _)); (fail_if_success (with_reducible show wpAny _ _ (call (Value.ref 200) _ _) _ _ _)); (fail_if_success (with_reducible show wpAny _ _ (call (Value.ref 262) _ _) _ _ _)); (fail_if_success (with_reducible show wpAny _ _ (call (Value.ref 146) _ _) _ _ _)); (fail_if_success (with_reducible show wpAny _ _ (eval (PySem.Expr.ListComp _ _ _ _) _) _ _ _)); (fail_if_success (with_reducible show wpAny _ _ (exec (Stmt.Assign _ (PySem.Expr.ListComp _ _ _ _) _) _) _ _ _)); (fail_if_success (with_reducible show CompSrc _ _ _ _ _ _ _ _ _ _ _ _ _ _)); (fail_if_success (with_reducible show SrcLP _ _ _ _ _ _ _ _ _ _ _ _ _ _ _)); (fail_if_success (with_reducible show EltPost _ _ _ _ _ _ _ _ _)); (fail_if_success (with_reducible show wpAny _ _ (noteFrame _ _) _ _ _)); (fail_if_success (with_reducible show wpAny _ _ (subscriptTail (PySem.Expr.BinOp _ _ _ _) _ (Value.ref _) _) _ _ _)); (fail_if_success (with_reducible show wpAny _ _ (binaryOp Operator.Add (Value.ref _) (Value.ref _)) _ _ _)); (fail_if_success (with_reducible show wpAny _ _ (compareOp CmpOp.NotEq (Value.ref _) (Value.ref _)) _ _ _)); first | (k_unfold; (try dsimp only)) | (k_end; kc_close) | walk1 | (dsimp only; walk1) | (leave1; walk_say "STEP leave1"; (try dsimp only)) | (refine useX (by with_reducible assumption) ?_; (try dsimp only)) | fail "no step"))
      refine' token_c (at_ := i3) ?zC ?zF N3 (by omega) (fun h' tk' v nw wv F' N' hf ht hd => ?_)
      case zF => k_asm
      case zC => tb_start
      exact (⟨h', tk', nw, wv, rfl, F', N', hf, ht, hd⟩ : TokPost _ _ _ _ _ _ _ _ _)
    · unfold LCg.FinA
      intro D3 h3 tk3 F3 N3 o3
      rw [← hks3] at hks
      have hl3 : ks.length = toks.length := by simpa using (congrArg List.length hks3).symm
      (repeat' ((fail_if_success (with_reducible show wpAny _ _ (exec (Stmt.For _ _ _ _ _) _) _ _ _)); (fail_if_success (with_reducible show wpAny _ _ (pyIter _) _ _ _)); (fail_if_success (with_reducible show wpAny _ _ (call (Value.ref 276) _ _) _ _ _)); (fail_if_success (with_reducible show wpAny _ _ (call (Value.ref 200) _ _) _ _ _)); (fail_if_success (with_reducible show wpAny _ _ (call (Value.ref 262) _ _) _ _ _)); (fail_if_success (with_reducible show wpAny _ _ (call (Value.ref 146) _ _) _ _ _)); (fail_if_success (with_reducible show wpAny _ _ (eval (PySem.Expr.ListComp _ _ _ _) _) _ _ _)); (fail_if_success (with_reducible show wpAny _ _ (exec (Stmt.Assign _ (PySem.Expr.ListComp _ _ _ _) _) _) _ _ _)); (fail_if_success (with_reducible show CompSrc _ _ _ _ _ _ _ _ _ _ _ _ _ _)); (fail_if_success (with_reducible show SrcLP _ _ _ _ _ _ _ _ _ _ _ _ _ _ _)); (fail_if_success (with_reducible show EltPost _ _ _ _ _ _ _ _ _)); (fail_if_success (with_reducible show wpAny _ _ (noteFrame _ _) _ _ _)); (fail_if_success (with_reducible show wpAny _ _ (subscriptTail (PySem.Expr.BinOp _ _ _ _) _ (Value.ref _) _) _ _ _)); (fail_if_success (with_reducible show wpAny _ _ (binaryOp Operator.Add (Value.ref _) (Value.ref _)) _ _ _)); (fail_if_success (with_reducible show wpAny _ _ (compareOp CmpOp.NotEq (Value.ref _) (Value.ref _)) _ _ _)); first | (k_unfold; (try dsimp only)) | (k_end; kc_close) | walk1 | (dsimp only; walk1) | (leave1; walk_say "STEP leave1"; (try dsimp only)) | (refine useX (by with_reducible assumption) ?_; (try dsimp only)) | fail "no step"))
      obtain ⟨l4, hap4, hm4⟩ := ap_of N3
      have N4 : News _ _ _ l4 := fun p hp => N3 p ((hm4 p).mp hp)
      have hkl4 := (hm4 _).mpr (mem_tl (List.mem_append_right nw3 (mem_tl (mem_tl hkl1))))
      have hW4 := hW1.mono fun p hp => (hm4 p).mpr (mem_tl (List.mem_append_right nw3 (mem_tl (mem_tl hp))))
      have hT4 := hTs.toksIn (fz := l4) (D := D3) (fun p hp => (hm4 p).mpr (mem_tl (List.mem_append_left _ hp))) ((hm4 _).mpr (.head _))
      have hI4 := (hm4 (I, it)).mpr (mem_tl (List.mem_append_right nw3 (.head _)))
      have hC4 := (hm4 _).mpr (mem_tl (List.mem_append_right nw3 (.tail _ (.head _))))
      have hs4 : ∀ p ∈ r0, p ∈ l4 := fun p hp => (hm4 p).mpr (mem_tl (List.mem_append_right nw3 (mem_tl (mem_tl (hsub p hp)))))
      have htf : ∀ t ∈ toks, TFine t.1 t.2.2 := fun t ht => by
        obtain ⟨k, hk⟩ := List.getElem?_of_mem ht
        obtain ⟨_, _, e⟩ := hTs.t k t hk
        rw [e]
        have hk2 := (List.getElem?_eq_some_iff.mp hk).1
        have hl17' := hks.len
        rw [List.length_map] at hl17'
        exact worth_fine (by omega) (hks.fine t ht)
      cases hdue : dueS toks 0 (S "begin") acc0 with
      | err spot =>
        refine' due_c ?zC ?zF N4 hap4 hkl4 hT4 hks3.symm hks.lt100 hW4 hks.end_ (fun h' tk' fz5 tp k t5 e5 F' N' hs5 hap5 htp => ?_) (fun h' tk' fz5 tp a t5 D R e5 F' N' hs5 hap5 htp hd1 hd2 => ?_)
        case zF => k_asm
        case zC => tb_start
        · rw [hdue] at e5
          cases e5
          clear N3 N30 N4 
          (repeat' ((fail_if_success (with_reducible show wpAny _ _ (exec (Stmt.For _ _ _ _ _) _) _ _ _)); (fail_if_success (with_reducible show wpAny _ _ (pyIter _) _ _ _)); (fail_if_success (with_reducible show wpAny _ _ (call (Value.ref 276) _ _) _ _ _)); (fail_if_success (with_reducible show wpAny _ _ (call (Value.ref 200) _ _) _ _ _)); (fail_if_success (with_reducible show wpAny _ _ (call (Value.ref 262) _ _) _ _ _)); (fail_if_success (with_reducible show wpAny _ _ (call (Value.ref 146) _ _) _ _ _)); (fail_if_success (with_reducible show wpAny _ _ (eval (PySem.Expr.ListComp _ _ _ _) _) _ _ _)); (fail_if_success (with_reducible show wpAny _ _ (exec (Stmt.Assign _ (PySem.Expr.ListComp _ _ _ _) _) _) _ _ _)); (fail_if_success (with_reducible show CompSrc _ _ _ _ _ _ _ _ _ _ _ _ _ _)); (fail_if_success (with_reducible show SrcLP _ _ _ _ _ _ _ _ _ _ _ _ _ _ _)); (fail_if_success (with_reducible show EltPost _ _ _ _ _ _ _ _ _)); (fail_if_success (with_reducible show wpAny _ _ (noteFrame _ _) _ _ _)); (fail_if_success (with_reducible show wpAny _ _ (subscriptTail (PySem.Expr.BinOp _ _ _ _) _ (Value.ref _) _) _ _ _)); (fail_if_success (with_reducible show wpAny _ _ (binaryOp Operator.Add (Value.ref _) (Value.ref _)) _ _ _)); (fail_if_success (with_reducible show wpAny _ _ (compareOp CmpOp.NotEq (Value.ref _) (Value.ref _)) _ _ _)); first | (k_unfold; (try dsimp only)) | (k_end; kc_close) | walk1 | (dsimp only; walk1) | (leave1; walk_say "STEP leave1"; (try dsimp only)) | (refine useX (by with_reducible assumption) ?_; (try dsimp only)) | fail "no step"))
          refine wpAny_Try_except ?_
          (repeat' ((fail_if_success (with_reducible show wpAny _ _ (exec (Stmt.For _ _ _ _ _) _) _ _ _)); (fail_if_success (with_reducible show wpAny _ _ (pyIter _) _ _ _)); (fail_if_success (with_reducible show wpAny _ _ (call (Value.ref 276) _ _) _ _ _)); (fail_if_success (with_reducible show wpAny _ _ (call (Value.ref 200) _ _) _ _ _)); (fail_if_success (with_reducible show wpAny _ _ (call (Value.ref 262) _ _) _ _ _)); (fail_if_success (with_reducible show wpAny _ _ (call (Value.ref 146) _ _) _ _ _)); (fail_if_success (with_reducible show wpAny _ _ (eval (PySem.Expr.ListComp _ _ _ _) _) _ _ _)); (fail_if_success (with_reducible show wpAny _ _ (exec (Stmt.Assign _ (PySem.Expr.ListComp _ _ _ _) _) _) _ _ _)); (fail_if_success (with_reducible show CompSrc _ _ _ _ _ _ _ _ _ _ _ _ _ _)); (fail_if_success (with_reducible show SrcLP _ _ _ _ _ _ _ _ _ _ _ _ _ _ _)); (fail_if_success (with_reducible show EltPost _ _ _ _ _ _ _ _ _)); (fail_if_success (with_reducible show wpAny _ _ (noteFrame _ _) _ _ _)); (fail_if_success (with_reducible show wpAny _ _ (subscriptTail (PySem.Expr.BinOp _ _ _ _) _ (Value.ref _) _) _ _ _)); (fail_if_success (with_reducible show wpAny _ _ (binaryOp Operator.Add (Value.ref _) (Value.ref _)) _ _ _)); (fail_if_success (with_reducible show wpAny _ _ (compareOp CmpOp.NotEq (Value.ref _) (Value.ref _)) _ _ _)); first | (k_unfold; (try dsimp only)) | (k_end; kc_close) | walk1 | (dsimp only; walk1) | (leave1; walk_say "STEP leave1"; (try dsimp only)) | (refine useX (by with_reducible assumption) ?_; (try dsimp only)) | fail "no step"))
          dsimp only [List.append_nil]
          have hlaw := law_plain hks.live hks.end_
          rw [hdue] at hlaw
          have hlaw' : fileT toks = .err spot := hlaw
          refine' file_c (mu := []) ?zC ?zF ?zN (fun _ h => (nomatch h)) ?zne ((hT4.mono fun p hp => mem_tl (hs5 p hp)).rdF hks (.head _)) hks.live (fun h' tk' v fz6 ds rs k6 hS F' N' G' hT => ?_) (fun e d g₂ h' tk' news6 k6 hS R' A' S' G' U' => ?_)
          case zF => k_asm
          case zC => tb_start
          case zN => exact rot1 (by assumption)
          case zne => exact List.forall_mem_cons.mpr ⟨by k_ne, by k_all⟩
          · rw [hlaw'] at hS; cases hS
          · rw [hlaw'] at hS
            cases hS
            obtain ⟨px, dpx, e1, e2, e3, e4, e5, q1, q2, q3, q4, q5, q6, n3, v1, v2, v3, ma, mb, mc⟩ := A'
            refine' caught_X ?zK G' U' R' ?zX ?zXe ?zT ?zex (fun h' oe tk F' N' hcl hdc hno => ?_)
            case zK => assumption
            case zX => k_asm
            case zXe => k_asm
            case zT => k_asm
            case zex => k_is
            have hma := mem_tl (q := (e, oe)) ma
            have hmb := mem_tl (q := (e, oe)) mb
            have hmc := mem_tl (q := (e, oe)) mc
            (repeat' ((fail_if_success (with_reducible show wpAny _ _ (getAttr _ (Str.ofString "at") _) _ _ _)); first | (k_unfold; (try dsimp only)) | (k_end; kc_close) | walk1 | (dsimp only; walk1) | (leave1; walk_say "STEP leave1"; (try dsimp only)) | (refine useX (by with_reducible assumption) ?_; (try dsimp only)) | fail "no step"))
            refine' err_at ?zX ?zh hcl hno hdc ?zd ?_
            case zX => k_in
            case zh => exact News.get (by k_asm) (.head _)
            case zd => exact News.get (by k_asm) hma
            (repeat' ((fail_if_success (with_reducible show wpAny _ _ (exec (Stmt.For _ _ _ _ _) _) _ _ _)); (fail_if_success (with_reducible show wpAny _ _ (pyIter _) _ _ _)); (fail_if_success (with_reducible show wpAny _ _ (call (Value.ref 276) _ _) _ _ _)); (fail_if_success (with_reducible show wpAny _ _ (call (Value.ref 200) _ _) _ _ _)); (fail_if_success (with_reducible show wpAny _ _ (call (Value.ref 262) _ _) _ _ _)); (fail_if_success (with_reducible show wpAny _ _ (call (Value.ref 146) _ _) _ _ _)); (fail_if_success (with_reducible show wpAny _ _ (eval (PySem.Expr.ListComp _ _ _ _) _) _ _ _)); (fail_if_success (with_reducible show wpAny _ _ (exec (Stmt.Assign _ (PySem.Expr.ListComp _ _ _ _) _) _) _ _ _)); (fail_if_success (with_reducible show CompSrc _ _ _ _ _ _ _ _ _ _ _ _ _ _)); (fail_if_success (with_reducible show SrcLP _ _ _ _ _ _ _ _ _ _ _ _ _ _ _)); (fail_if_success (with_reducible show EltPost _ _ _ _ _ _ _ _ _)); (fail_if_success (with_reducible show wpAny _ _ (noteFrame _ _) _ _ _)); (fail_if_success (with_reducible show wpAny _ _ (subscriptTail (PySem.Expr.BinOp _ _ _ _) _ (Value.ref _) _) _ _ _)); (fail_if_success (with_reducible show wpAny _ _ (binaryOp Operator.Add (Value.ref _) (Value.ref _)) _ _ _)); (fail_if_success (with_reducible show wpAny _ _ (compareOp CmpOp.NotEq (Value.ref _) (Value.ref _)) _ _ _)); first | (k_unfold; (try dsimp only)) | (k_end; kc_close) | walk1 | (dsimp only; walk1) | (leave1; walk_say "STEP leave1"; (try dsimp only)) | (refine useX (by with_reducible assumption) ?_; (try dsimp only)) | fail "no step"))
            · exact absurd rfl (by assumption)
            · dsimp only
              (repeat' ((fail_if_success (with_reducible show wpAny _ _ (exec (Stmt.For _ _ _ _ _) _) _ _ _)); (fail_if_success (with_reducible show wpAny _ _ (pyIter _) _ _ _)); (fail_if_success (with_reducible show wpAny _ _ (call (Value.ref 276) _ _) _ _ _)); (fail_if_success (with_reducible show wpAny _ _ (call (Value.ref 200) _ _) _ _ _)); (fail_if_success (with_reducible show wpAny _ _ (call (Value.ref 262) _ _) _ _ _)); (fail_if_success (with_reducible show wpAny _ _ (call (Value.ref 146) _ _) _ _ _)); (fail_if_success (with_reducible show wpAny _ _ (eval (PySem.Expr.ListComp _ _ _ _) _) _ _ _)); (fail_if_success (with_reducible show wpAny _ _ (exec (Stmt.Assign _ (PySem.Expr.ListComp _ _ _ _) _) _) _ _ _)); (fail_if_success (with_reducible show CompSrc _ _ _ _ _ _ _ _ _ _ _ _ _ _)); (fail_if_success (with_reducible show SrcLP _ _ _ _ _ _ _ _ _ _ _ _ _ _ _)); (fail_if_success (with_reducible show EltPost _ _ _ _ _ _ _ _ _)); (fail_if_success (with_reducible show wpAny _ _ (noteFrame _ _) _ _ _)); (fail_if_success (with_reducible show wpAny _ _ (subscriptTail (PySem.Expr.BinOp _ _ _ _) _ (Value.ref _) _) _ _ _)); (fail_if_success (with_reducible show wpAny _ _ (binaryOp Operator.Add (Value.ref _) (Value.ref _)) _ _ _)); (fail_if_success (with_reducible show wpAny _ _ (compareOp CmpOp.NotEq (Value.ref _) (Value.ref _)) _ _ _)); first | (k_unfold; (try dsimp only)) | (k_end; kc_close) | walk1 | (dsimp only; walk1) | (leave1; walk_say "STEP leave1"; (try dsimp only)) | (refine useX (by with_reducible assumption) ?_; (try dsimp only)) | fail "no step"))
              refine name_goesX (by assumption) (by assumption) ?_
              intro h9 v9 F9 N9
              have hs9 : ∀ p ∈ l4, p ∈ (e, oe) :: news6 := fun p hp => mem_tl (S' p (mem_tl (hs5 p hp)))
              obtain ⟨n9, N10, hn10, hJ⟩ := law_next (i := i + 1) F9 N9 (hs9 _ hI4) (hs9 _ hC4) (Nat.ne_of_lt hIlt) (fun p hp => hs9 p (hs4 p hp)) (fun p hp => hIn p (.tail _ (hsub p hp))) hne0 hcell (by with_unfolding_all rfl)
              first | exact FStep.cont F9 N10 hn10 hJ | exact hW9 _ _ (FStep.cont F9 N10 hn10 hJ)
        · rw [hdue] at e5; cases e5
      | ok a =>
        refine' due_c ?zC ?zF N4 hap4 hkl4 hT4 hks3.symm hks.lt100 hW4 hks.end_ (fun h' tk' fz5 tp k t5 e5 F' N' hs5 hap5 htp => ?_) (fun h' tk' fz5 tp a t5 D R e5 F' N' hs5 hap5 htp hd1 hd2 => ?_)
        case zF => k_asm
        case zC => tb_start
        · rw [hdue] at e5; cases e5
        · rw [hdue] at e5
          cases e5
          clear N3 N30 N4
          (repeat' ((fail_if_success (with_reducible show wpAny _ _ (exec (Stmt.For _ _ _ _ _) _) _ _ _)); (fail_if_success (with_reducible show wpAny _ _ (pyIter _) _ _ _)); (fail_if_success (with_reducible show wpAny _ _ (call (Value.ref 276) _ _) _ _ _)); (fail_if_success (with_reducible show wpAny _ _ (call (Value.ref 200) _ _) _ _ _)); (fail_if_success (with_reducible show wpAny _ _ (call (Value.ref 262) _ _) _ _ _)); (fail_if_success (with_reducible show wpAny _ _ (call (Value.ref 146) _ _) _ _ _)); (fail_if_success (with_reducible show wpAny _ _ (eval (PySem.Expr.ListComp _ _ _ _) _) _ _ _)); (fail_if_success (with_reducible show wpAny _ _ (exec (Stmt.Assign _ (PySem.Expr.ListComp _ _ _ _) _) _) _ _ _)); (fail_if_success (with_reducible show CompSrc _ _ _ _ _ _ _ _ _ _ _ _ _ _)); (fail_if_success (with_reducible show SrcLP _ _ _ _ _ _ _ _ _ _ _ _ _ _ _)); (fail_if_success (with_reducible show EltPost _ _ _ _ _ _ _ _ _)); (fail_if_success (with_reducible show wpAny _ _ (noteFrame _ _) _ _ _)); (fail_if_success (with_reducible show wpAny _ _ (subscriptTail (PySem.Expr.BinOp _ _ _ _) _ (Value.ref _) _) _ _ _)); (fail_if_success (with_reducible show wpAny _ _ (binaryOp Operator.Add (Value.ref _) (Value.ref _)) _ _ _)); (fail_if_success (with_reducible show wpAny _ _ (compareOp CmpOp.NotEq (Value.ref _) (Value.ref _)) _ _ _)); first | (k_unfold; (try dsimp only)) | (k_end; kc_close) | walk1 | (dsimp only; walk1) | (leave1; walk_say "STEP leave1"; (try dsimp only)) | (refine useX (by with_reducible assumption) ?_; (try dsimp only)) | fail "no step"))
          refine wpAny_Try_except ?_
          (repeat' ((fail_if_success (with_reducible show wpAny _ _ (exec (Stmt.For _ _ _ _ _) _) _ _ _)); (fail_if_success (with_reducible show wpAny _ _ (pyIter _) _ _ _)); (fail_if_success (with_reducible show wpAny _ _ (call (Value.ref 276) _ _) _ _ _)); (fail_if_success (with_reducible show wpAny _ _ (call (Value.ref 200) _ _) _ _ _)); (fail_if_success (with_reducible show wpAny _ _ (call (Value.ref 262) _ _) _ _ _)); (fail_if_success (with_reducible show wpAny _ _ (call (Value.ref 146) _ _) _ _ _)); (fail_if_success (with_reducible show wpAny _ _ (eval (PySem.Expr.ListComp _ _ _ _) _) _ _ _)); (fail_if_success (with_reducible show wpAny _ _ (exec (Stmt.Assign _ (PySem.Expr.ListComp _ _ _ _) _) _) _ _ _)); (fail_if_success (with_reducible show CompSrc _ _ _ _ _ _ _ _ _ _ _ _ _ _)); (fail_if_success (with_reducible show SrcLP _ _ _ _ _ _ _ _ _ _ _ _ _ _ _)); (fail_if_success (with_reducible show EltPost _ _ _ _ _ _ _ _ _)); (fail_if_success (with_reducible show wpAny _ _ (noteFrame _ _) _ _ _)); (fail_if_success (with_reducible show wpAny _ _ (subscriptTail (PySem.Expr.BinOp _ _ _ _) _ (Value.ref _) _) _ _ _)); (fail_if_success (with_reducible show wpAny _ _ (binaryOp Operator.Add (Value.ref _) (Value.ref _)) _ _ _)); (fail_if_success (with_reducible show wpAny _ _ (compareOp CmpOp.NotEq (Value.ref _) (Value.ref _)) _ _ _)); first | (k_unfold; (try dsimp only)) | (k_end; kc_close) | walk1 | (dsimp only; walk1) | (leave1; walk_say "STEP leave1"; (try dsimp only)) | (refine useX (by with_reducible assumption) ?_; (try dsimp only)) | fail "no step"))
          dsimp only [List.append_nil]
          have hlaw := law_plain hks.live hks.end_
          rw [hdue] at hlaw
          obtain ⟨kf, hlaw'⟩ := hlaw
          refine' file_c (mu := []) ?zC ?zF ?zN (fun _ h => (nomatch h)) ?zne ((hT4.mono fun p hp => mem_tl (hs5 p hp)).rdF hks (.head _)) hks.live (fun h' tk' v fz6 ds rs k6 hS F' N' G' hT => ?_) (fun e d g₂ h' tk' news6 k6 hS R' A' S' G' U' => ?_)
          case zF => k_asm
          case zC => tb_start
          case zN => exact rot1 (by assumption)
          case zne => exact List.forall_mem_cons.mpr ⟨by k_ne, by k_all⟩
          · rw [hlaw'] at hS
            cases hS
            obtain ⟨xt, dxt, dl, rl, e1, e2, q1, q2, rfl, hx1, hx2, hD, hR⟩ := id hT
            obtain ⟨_, vsR, cR, eR, hmR, hallR⟩ := list_open hR
            cases eR
            obtain ⟨_, vsL, cL, eL, hmL5, hallL5⟩ := list_open hd2
            cases eL
            have hacc := due_acc acc0_ok htf hdue
            have hlA : toks.length < 100 := hks.lt100
            have hrl : a.rsAll.length < 200 := Nat.lt_of_le_of_lt hacc.rl (by omega)
            have hdl : a.dsAll.length < 200 := Nat.lt_of_le_of_lt hacc.dl (by omega)
            have s6 : ∀ p ∈ fz5, p ∈ fz6 := fun p hp => G'.sub p (.tail _ hp)
            have hmL := s6 _ hmL5
            have hallL := hallL5.mono s6
            have N6 : News _ _ _ fz6 := N'
            clear N'
            (repeat' ((fail_if_success (with_reducible show wpAny _ _ (exec (Stmt.For _ _ _ _ _) _) _ _ _)); (fail_if_success (with_reducible show wpAny _ _ (pyIter _) _ _ _)); (fail_if_success (with_reducible show wpAny _ _ (call (Value.ref 276) _ _) _ _ _)); (fail_if_success (with_reducible show wpAny _ _ (call (Value.ref 200) _ _) _ _ _)); (fail_if_success (with_reducible show wpAny _ _ (call (Value.ref 262) _ _) _ _ _)); (fail_if_success (with_reducible show wpAny _ _ (call (Value.ref 146) _ _) _ _ _)); (fail_if_success (with_reducible show wpAny _ _ (eval (PySem.Expr.ListComp _ _ _ _) _) _ _ _)); (fail_if_success (with_reducible show wpAny _ _ (exec (Stmt.Assign _ (PySem.Expr.ListComp _ _ _ _) _) _) _ _ _)); (fail_if_success (with_reducible show CompSrc _ _ _ _ _ _ _ _ _ _ _ _ _ _)); (fail_if_success (with_reducible show SrcLP _ _ _ _ _ _ _ _ _ _ _ _ _ _ _)); (fail_if_success (with_reducible show EltPost _ _ _ _ _ _ _ _ _)); (fail_if_success (with_reducible show wpAny _ _ (noteFrame _ _) _ _ _)); (fail_if_success (with_reducible show wpAny _ _ (subscriptTail (PySem.Expr.BinOp _ _ _ _) _ (Value.ref _) _) _ _ _)); (fail_if_success (with_reducible show wpAny _ _ (binaryOp Operator.Add (Value.ref _) (Value.ref _)) _ _ _)); (fail_if_success (with_reducible show wpAny _ _ (compareOp CmpOp.NotEq (Value.ref _) (Value.ref _)) _ _ _)); first | (k_unfold; (try dsimp only)) | (k_end; kc_close) | walk1 | (dsimp only; walk1) | (leave1; walk_say "STEP leave1"; (try dsimp only)) | (refine useX (by with_reducible assumption) ?_; (try dsimp only)) | fail "no step"))
            refine LCp.ListComp_P (F₀ := by k_asm) (by with_unfolding_all rfl) (by decide) (by rfl) (by decide) (by rfl) (by rfl) (by decide) ?_
            (repeat' ((fail_if_success (with_reducible show wpAny _ _ (exec (Stmt.For _ _ _ _ _) _) _ _ _)); (fail_if_success (with_reducible show wpAny _ _ (pyIter _) _ _ _)); (fail_if_success (with_reducible show wpAny _ _ (call (Value.ref 276) _ _) _ _ _)); (fail_if_success (with_reducible show wpAny _ _ (call (Value.ref 200) _ _) _ _ _)); (fail_if_success (with_reducible show wpAny _ _ (call (Value.ref 262) _ _) _ _ _)); (fail_if_success (with_reducible show wpAny _ _ (call (Value.ref 146) _ _) _ _ _)); (fail_if_success (with_reducible show wpAny _ _ (eval (PySem.Expr.ListComp _ _ _ _) _) _ _ _)); (fail_if_success (with_reducible show wpAny _ _ (exec (Stmt.Assign _ (PySem.Expr.ListComp _ _ _ _) _) _) _ _ _)); (fail_if_success (with_reducible show CompSrc _ _ _ _ _ _ _ _ _ _ _ _ _ _)); (fail_if_success (with_reducible show SrcLP _ _ _ _ _ _ _ _ _ _ _ _ _ _ _)); (fail_if_success (with_reducible show EltPost _ _ _ _ _ _ _ _ _)); (fail_if_success (with_reducible show wpAny _ _ (noteFrame _ _) _ _ _)); (fail_if_success (with_reducible show wpAny _ _ (subscriptTail (PySem.Expr.BinOp _ _ _ _) _ (Value.ref _) _) _ _ _)); (fail_if_success (with_reducible show wpAny _ _ (binaryOp Operator.Add (Value.ref _) (Value.ref _)) _ _ _)); (fail_if_success (with_reducible show wpAny _ _ (compareOp CmpOp.NotEq (Value.ref _) (Value.ref _)) _ _ _)); first | (k_unfold; (try dsimp only)) | (k_end; kc_close) | walk1 | (dsimp only; walk1) | (leave1; walk_say "STEP leave1"; (try dsimp only)) | (refine useX (by with_reducible assumption) ?_; (try dsimp only)) | fail "no step"))
            refine' srcP rfl ?zF ?zN (fun _ h => h) hmR hallR (by rw [List.length_map]; omega) (fun d hd => by obtain ⟨x, _, rfl⟩ := List.mem_map.mp hd; exact ⟨_, _, rfl⟩) fHead (fun da db v₁ v₂ nw7 I7 oI7 C7 oC7 D7 ys7 m7 h7 tk7 E7 hdm hv1 hv2 hfr7 hoC7 hxa hxb F7 N7 hoff7 hne7 => ?_) (fun nw7 ys7 g7 hfr7 hys7 => ?_)
            case zF => k_asm
            case zN => k_asm
            · have hh1 := hv1.handed
              (repeat' ((fail_if_success (with_reducible show wpAny _ _ (exec (Stmt.For _ _ _ _ _) _) _ _ _)); (fail_if_success (with_reducible show wpAny _ _ (pyIter _) _ _ _)); (fail_if_success (with_reducible show wpAny _ _ (call (Value.ref 276) _ _) _ _ _)); (fail_if_success (with_reducible show wpAny _ _ (call (Value.ref 200) _ _) _ _ _)); (fail_if_success (with_reducible show wpAny _ _ (call (Value.ref 262) _ _) _ _ _)); (fail_if_success (with_reducible show wpAny _ _ (call (Value.ref 146) _ _) _ _ _)); (fail_if_success (with_reducible show wpAny _ _ (eval (PySem.Expr.ListComp _ _ _ _) _) _ _ _)); (fail_if_success (with_reducible show wpAny _ _ (exec (Stmt.Assign _ (PySem.Expr.ListComp _ _ _ _) _) _) _ _ _)); (fail_if_success (with_reducible show CompSrc _ _ _ _ _ _ _ _ _ _ _ _ _ _)); (fail_if_success (with_reducible show SrcLP _ _ _ _ _ _ _ _ _ _ _ _ _ _ _)); (fail_if_success (with_reducible show EltPost _ _ _ _ _ _ _ _ _)); (fail_if_success (with_reducible show wpAny _ _ (noteFrame _ _) _ _ _)); (fail_if_success (with_reducible show wpAny _ _ (subscriptTail (PySem.Expr.BinOp _ _ _ _) _ (Value.ref _) _) _ _ _)); (fail_if_success (with_reducible show wpAny _ _ (binaryOp Operator.Add (Value.ref _) (Value.ref _)) _ _ _)); (fail_if_success (with_reducible show wpAny _ _ (compareOp CmpOp.NotEq (Value.ref _) (Value.ref _)) _ _ _)); first | (k_unfold; (try dsimp only)) | (k_end; kc_close) | walk1 | (dsimp only; walk1) | (leave1; walk_say "STEP leave1"; (try dsimp only)) | (refine useX (by with_reducible assumption) ?_; (try dsimp only)) | fail "no step"))
              exact EltPost.mk [] (by assumption) (by assumption) .nil (hv1.mono fun p hp => List.mem_append_right nw7 hp)
            · unfold LCg.FinE
              intro D7 h7 tk7 F7 N7 o7
              have hmL7 := mem_tl (q := (D7, lst ys7)) (List.mem_append_right nw7 hmL)
              (repeat' ((fail_if_success (with_reducible show wpAny _ _ (exec (Stmt.For _ _ _ _ _) _) _ _ _)); (fail_if_success (with_reducible show wpAny _ _ (pyIter _) _ _ _)); (fail_if_success (with_reducible show wpAny _ _ (call (Value.ref 276) _ _) _ _ _)); (fail_if_success (with_reducible show wpAny _ _ (call (Value.ref 200) _ _) _ _ _)); (fail_if_success (with_reducible show wpAny _ _ (call (Value.ref 262) _ _) _ _ _)); (fail_if_success (with_reducible show wpAny _ _ (call (Value.ref 146) _ _) _ _ _)); (fail_if_success (with_reducible show wpAny _ _ (eval (PySem.Expr.ListComp _ _ _ _) _) _ _ _)); (fail_if_success (with_reducible show wpAny _ _ (exec (Stmt.Assign _ (PySem.Expr.ListComp _ _ _ _) _) _) _ _ _)); (fail_if_success (with_reducible show CompSrc _ _ _ _ _ _ _ _ _ _ _ _ _ _)); (fail_if_success (with_reducible show SrcLP _ _ _ _ _ _ _ _ _ _ _ _ _ _ _)); (fail_if_success (with_reducible show EltPost _ _ _ _ _ _ _ _ _)); (fail_if_success (with_reducible show wpAny _ _ (noteFrame _ _) _ _ _)); (fail_if_success (with_reducible show wpAny _ _ (subscriptTail (PySem.Expr.BinOp _ _ _ _) _ (Value.ref _) _) _ _ _)); (fail_if_success (with_reducible show wpAny _ _ (binaryOp Operator.Add (Value.ref _) (Value.ref _)) _ _ _)); (fail_if_success (with_reducible show wpAny _ _ (compareOp CmpOp.NotEq (Value.ref _) (Value.ref _)) _ _ _)); first | (k_unfold; (try dsimp only)) | (k_end; kc_close) | walk1 | (dsimp only; walk1) | (leave1; walk_say "STEP leave1"; (try dsimp only)) | (refine useX (by with_reducible assumption) ?_; (try dsimp only)) | fail "no step"))
              refine LCp.ListComp_P (F₀ := by k_asm) (by with_unfolding_all rfl) (by decide) (by rfl) (by decide) (by rfl) (by rfl) (by decide) ?_
              (repeat' ((fail_if_success (with_reducible show wpAny _ _ (exec (Stmt.For _ _ _ _ _) _) _ _ _)); (fail_if_success (with_reducible show wpAny _ _ (pyIter _) _ _ _)); (fail_if_success (with_reducible show wpAny _ _ (call (Value.ref 276) _ _) _ _ _)); (fail_if_success (with_reducible show wpAny _ _ (call (Value.ref 200) _ _) _ _ _)); (fail_if_success (with_reducible show wpAny _ _ (call (Value.ref 262) _ _) _ _ _)); (fail_if_success (with_reducible show wpAny _ _ (call (Value.ref 146) _ _) _ _ _)); (fail_if_success (with_reducible show wpAny _ _ (eval (PySem.Expr.ListComp _ _ _ _) _) _ _ _)); (fail_if_success (with_reducible show wpAny _ _ (exec (Stmt.Assign _ (PySem.Expr.ListComp _ _ _ _) _) _) _ _ _)); (fail_if_success (with_reducible show CompSrc _ _ _ _ _ _ _ _ _ _ _ _ _ _)); (fail_if_success (with_reducible show SrcLP _ _ _ _ _ _ _ _ _ _ _ _ _ _ _)); (fail_if_success (with_reducible show EltPost _ _ _ _ _ _ _ _ _)); (fail_if_success (with_reducible show wpAny _ _ (noteFrame _ _) _ _ _)); (fail_if_success (with_reducible show wpAny _ _ (subscriptTail (PySem.Expr.BinOp _ _ _ _) _ (Value.ref _) _) _ _ _)); (fail_if_success (with_reducible show wpAny _ _ (binaryOp Operator.Add (Value.ref _) (Value.ref _)) _ _ _)); (fail_if_success (with_reducible show wpAny _ _ (compareOp CmpOp.NotEq (Value.ref _) (Value.ref _)) _ _ _)); first | (k_unfold; (try dsimp only)) | (k_end; kc_close) | walk1 | (dsimp only; walk1) | (leave1; walk_say "STEP leave1"; (try dsimp only)) | (refine useX (by with_reducible assumption) ?_; (try dsimp only)) | fail "no step"))
              refine' srcP rfl ?zF ?zN (fun p hp => mem_tl (List.mem_append_right nw7 hp)) hmL7 hallL (by rw [List.length_map]; omega) (fun d hd => by obtain ⟨x, _, rfl⟩ := List.mem_map.mp hd; exact ⟨_, _, rfl⟩) fHead (fun da db v₁ v₂ nw8 I8 oI8 C8 oC8 D8 ys8 m8 h8 tk8 E8 hdm hv1 hv2 hfr8 hoC8 hxa hxb F8 N8 hoff8 hne8 => ?_) (fun nw8 ys8 g8 hfr8 hys8 => ?_)
              case zF => k_asm
              case zN => k_asm
              · have hh1 := hv1.handed
                (repeat' ((fail_if_success (with_reducible show wpAny _ _ (exec (Stmt.For _ _ _ _ _) _) _ _ _)); (fail_if_success (with_reducible show wpAny _ _ (pyIter _) _ _ _)); (fail_if_success (with_reducible show wpAny _ _ (call (Value.ref 276) _ _) _ _ _)); (fail_if_success (with_reducible show wpAny _ _ (call (Value.ref 200) _ _) _ _ _)); (fail_if_success (with_reducible show wpAny _ _ (call (Value.ref 262) _ _) _ _ _)); (fail_if_success (with_reducible show wpAny _ _ (call (Value.ref 146) _ _) _ _ _)); (fail_if_success (with_reducible show wpAny _ _ (eval (PySem.Expr.ListComp _ _ _ _) _) _ _ _)); (fail_if_success (with_reducible show wpAny _ _ (exec (Stmt.Assign _ (PySem.Expr.ListComp _ _ _ _) _) _) _ _ _)); (fail_if_success (with_reducible show CompSrc _ _ _ _ _ _ _ _ _ _ _ _ _ _)); (fail_if_success (with_reducible show SrcLP _ _ _ _ _ _ _ _ _ _ _ _ _ _ _)); (fail_if_success (with_reducible show EltPost _ _ _ _ _ _ _ _ _)); (fail_if_success (with_reducible show wpAny _ _ (noteFrame _ _) _ _ _)); (fail_if_success (with_reducible show wpAny _ _ (subscriptTail (PySem.Expr.BinOp _ _ _ _) _ (Value.ref _) _) _ _ _)); (fail_if_success (with_reducible show wpAny _ _ (binaryOp Operator.Add (Value.ref _) (Value.ref _)) _ _ _)); (fail_if_success (with_reducible show wpAny _ _ (compareOp CmpOp.NotEq (Value.ref _) (Value.ref _)) _ _ _)); first | (k_unfold; (try dsimp only)) | (k_end; kc_close) | walk1 | (dsimp only; walk1) | (leave1; walk_say "STEP leave1"; (try dsimp only)) | (refine useX (by with_reducible assumption) ?_; (try dsimp only)) | fail "no step"))
                exact EltPost.mk [] (by assumption) (by assumption) .nil (hv1.mono fun p hp => List.mem_append_right nw8 hp)
              · unfold LCg.FinE
                intro D8 h8 tk8 F8 N8 o8
                (repeat' ((fail_if_success (with_reducible show wpAny _ _ (exec (Stmt.For _ _ _ _ _) _) _ _ _)); (fail_if_success (with_reducible show wpAny _ _ (pyIter _) _ _ _)); (fail_if_success (with_reducible show wpAny _ _ (call (Value.ref 276) _ _) _ _ _)); (fail_if_success (with_reducible show wpAny _ _ (call (Value.ref 200) _ _) _ _ _)); (fail_if_success (with_reducible show wpAny _ _ (call (Value.ref 262) _ _) _ _ _)); (fail_if_success (with_reducible show wpAny _ _ (call (Value.ref 146) _ _) _ _ _)); (fail_if_success (with_reducible show wpAny _ _ (eval (PySem.Expr.ListComp _ _ _ _) _) _ _ _)); (fail_if_success (with_reducible show wpAny _ _ (exec (Stmt.Assign _ (PySem.Expr.ListComp _ _ _ _) _) _) _ _ _)); (fail_if_success (with_reducible show CompSrc _ _ _ _ _ _ _ _ _ _ _ _ _ _)); (fail_if_success (with_reducible show SrcLP _ _ _ _ _ _ _ _ _ _ _ _ _ _ _)); (fail_if_success (with_reducible show EltPost _ _ _ _ _ _ _ _ _)); (fail_if_success (with_reducible show wpAny _ _ (noteFrame _ _) _ _ _)); (fail_if_success (with_reducible show wpAny _ _ (subscriptTail (PySem.Expr.BinOp _ _ _ _) _ (Value.ref _) _) _ _ _)); (fail_if_success (with_reducible show wpAny _ _ (binaryOp Operator.Add (Value.ref _) (Value.ref _)) _ _ _)); (fail_if_success (with_reducible show wpAny _ _ (compareOp CmpOp.NotEq (Value.ref _) (Value.ref _)) _ _ _)); first | (k_unfold; (try dsimp only)) | (k_end; kc_close) | walk1 | (dsimp only; walk1) | (leave1; walk_say "STEP leave1"; (try dsimp only)) | (refine useX (by with_reducible assumption) ?_; (try dsimp only)) | fail "no step"))
                have hrk : ∀ x ∈ a.rsAll, PairOk x.1 := fun x hx => (hacc.r x hx).h
                have sb8 : ∀ p ∈ nw8 ++ fz6, p ∈ (D8, lst ys8) :: (nw8 ++ (D7, lst ys7) :: (nw7 ++ fz6)) := fun p hp => mem_tl ((List.mem_append.mp hp).elim (fun h => List.mem_append_left _ h) fun h => List.mem_append_right _ (mem_tl (List.mem_append_right _ h)))
                refine ne_same N8 (mem_tl (List.mem_append_right nw8 (.head _))) (.head _) hys7 hys8 (fun p hp => mem_tl (List.mem_append_right nw8 (mem_tl hp))) sb8 (fun d hd => ?_) (heads_eq _) (by ktr_units) ?_
                · obtain ⟨y, hy, rfl⟩ := List.mem_map.mp hd
                  obtain ⟨x, hx, rfl⟩ := List.mem_map.mp hy
                  exact kqd_le (pair_fine (hrk x hx)) (by decide)
                have s9 : ∀ p ∈ fz6, p ∈ (D8, lst ys8) :: (nw8 ++ (D7, lst ys7) :: (nw7 ++ fz6)) := fun p hp => sb8 p (List.mem_append_right _ hp)
                generalize hr9 : (D8, lst ys8) :: (nw8 ++ (D7, lst ys7) :: (nw7 ++ fz6)) = r9 at N8 s9
                clear hr9 sb8 hys7 hys8 hfr7 hfr8 o8 o7 hmL7
                have hmL9 := s9 _ hmL
                (repeat' ((fail_if_success (with_reducible show wpAny _ _ (exec (Stmt.For _ _ _ _ _) _) _ _ _)); (fail_if_success (with_reducible show wpAny _ _ (pyIter _) _ _ _)); (fail_if_success (with_reducible show wpAny _ _ (call (Value.ref 276) _ _) _ _ _)); (fail_if_success (with_reducible show wpAny _ _ (call (Value.ref 200) _ _) _ _ _)); (fail_if_success (with_reducible show wpAny _ _ (call (Value.ref 262) _ _) _ _ _)); (fail_if_success (with_reducible show wpAny _ _ (call (Value.ref 146) _ _) _ _ _)); (fail_if_success (with_reducible show wpAny _ _ (eval (PySem.Expr.ListComp _ _ _ _) _) _ _ _)); (fail_if_success (with_reducible show wpAny _ _ (exec (Stmt.Assign _ (PySem.Expr.ListComp _ _ _ _) _) _) _ _ _)); (fail_if_success (with_reducible show CompSrc _ _ _ _ _ _ _ _ _ _ _ _ _ _)); (fail_if_success (with_reducible show SrcLP _ _ _ _ _ _ _ _ _ _ _ _ _ _ _)); (fail_if_success (with_reducible show EltPost _ _ _ _ _ _ _ _ _)); (fail_if_success (with_reducible show wpAny _ _ (noteFrame _ _) _ _ _)); (fail_if_success (with_reducible show wpAny _ _ (subscriptTail (PySem.Expr.BinOp _ _ _ _) _ (Value.ref _) _) _ _ _)); (fail_if_success (with_reducible show wpAny _ _ (binaryOp Operator.Add (Value.ref _) (Value.ref _)) _ _ _)); (fail_if_success (with_reducible show wpAny _ _ (compareOp CmpOp.NotEq (Value.ref _) (Value.ref _)) _ _ _)); first | (k_unfold; (try dsimp only)) | (k_end; kc_close) | walk1 | (dsimp only; walk1) | (leave1; walk_say "STEP leave1"; (try dsimp only)) | (refine useX (by with_reducible assumption) ?_; (try dsimp only)) | fail "no step"))
                refine' For_turns ?zF ?_
                case zF => k_asm
                (repeat' ((fail_if_success (with_reducible show wpAny _ _ (exec (Stmt.For _ _ _ _ _) _) _ _ _)); (fail_if_success (with_reducible show wpAny _ _ (pyIter _) _ _ _)); (fail_if_success (with_reducible show wpAny _ _ (call (Value.ref 276) _ _) _ _ _)); (fail_if_success (with_reducible show wpAny _ _ (call (Value.ref 200) _ _) _ _ _)); (fail_if_success (with_reducible show wpAny _ _ (call (Value.ref 262) _ _) _ _ _)); (fail_if_success (with_reducible show wpAny _ _ (call (Value.ref 146) _ _) _ _ _)); (fail_if_success (with_reducible show wpAny _ _ (eval (PySem.Expr.ListComp _ _ _ _) _) _ _ _)); (fail_if_success (with_reducible show wpAny _ _ (exec (Stmt.Assign _ (PySem.Expr.ListComp _ _ _ _) _) _) _ _ _)); (fail_if_success (with_reducible show CompSrc _ _ _ _ _ _ _ _ _ _ _ _ _ _)); (fail_if_success (with_reducible show SrcLP _ _ _ _ _ _ _ _ _ _ _ _ _ _ _)); (fail_if_success (with_reducible show EltPost _ _ _ _ _ _ _ _ _)); (fail_if_success (with_reducible show wpAny _ _ (noteFrame _ _) _ _ _)); (fail_if_success (with_reducible show wpAny _ _ (subscriptTail (PySem.Expr.BinOp _ _ _ _) _ (Value.ref _) _) _ _ _)); (fail_if_success (with_reducible show wpAny _ _ (binaryOp Operator.Add (Value.ref _) (Value.ref _)) _ _ _)); (fail_if_success (with_reducible show wpAny _ _ (compareOp CmpOp.NotEq (Value.ref _) (Value.ref _)) _ _ _)); first | (k_unfold; (try dsimp only)) | (k_end; kc_close) | walk1 | (dsimp only; walk1) | (leave1; walk_say "STEP leave1"; (try dsimp only)) | (refine useX (by with_reducible assumption) ?_; (try dsimp only)) | fail "no step"))
                refine' for_plain rfl ?pF ?pN ?pl hmL9 hallL ?p1 ?p2 ?p3 ?p4 ?pstep ?pdone
                case pF => k_asm
                case pN => k_asm
                case pl => assumption
                case p1 => with_unfolding_all rfl
                case p2 => with_unfolding_all rfl
                case p3 => with_unfolding_all rfl
                case p4 => with_unfolding_all rfl
                case pdone =>
                  intro hp tkp mp ysp cp nwp hfp hysp p1 p2 p3 p4 Fp Np
                  rw [map4 p1 p2 p3 p4] at Fp
                  have sp : ∀ p ∈ fz6, p ∈ nwp ++ r9 := fun p hp => List.mem_append_right _ (s9 p hp)
                  have hx10 := sp _ hx1
                  have hx20 := sp _ hx2
                  have hyl := hysp.length
                  rw [List.length_map, List.length_map] at hyl
                  obtain ⟨_, vsD, cD, eD, hmD5, hallD5⟩ := list_open hd1
                  cases eD
                  have hmD := sp _ (s6 _ hmD5)
                  (repeat' ((fail_if_success (with_reducible show wpAny _ _ (exec (Stmt.For _ _ _ _ _) _) _ _ _)); (fail_if_success (with_reducible show wpAny _ _ (pyIter _) _ _ _)); (fail_if_success (with_reducible show wpAny _ _ (call (Value.ref 276) _ _) _ _ _)); (fail_if_success (with_reducible show wpAny _ _ (call (Value.ref 200) _ _) _ _ _)); (fail_if_success (with_reducible show wpAny _ _ (call (Value.ref 262) _ _) _ _ _)); (fail_if_success (with_reducible show wpAny _ _ (call (Value.ref 146) _ _) _ _ _)); (fail_if_success (with_reducible show wpAny _ _ (eval (PySem.Expr.ListComp _ _ _ _) _) _ _ _)); (fail_if_success (with_reducible show wpAny _ _ (exec (Stmt.Assign _ (PySem.Expr.ListComp _ _ _ _) _) _) _ _ _)); (fail_if_success (with_reducible show CompSrc _ _ _ _ _ _ _ _ _ _ _ _ _ _)); (fail_if_success (with_reducible show SrcLP _ _ _ _ _ _ _ _ _ _ _ _ _ _ _)); (fail_if_success (with_reducible show EltPost _ _ _ _ _ _ _ _ _)); (fail_if_success (with_reducible show wpAny _ _ (noteFrame _ _) _ _ _)); (fail_if_success (with_reducible show wpAny _ _ (subscriptTail (PySem.Expr.BinOp _ _ _ _) _ (Value.ref _) _) _ _ _)); (fail_if_success (with_reducible show wpAny _ _ (binaryOp Operator.Add (Value.ref _) (Value.ref _)) _ _ _)); (fail_if_success (with_reducible show wpAny _ _ (compareOp CmpOp.NotEq (Value.ref _) (Value.ref _)) _ _ _)); first | (k_unfold; (try dsimp only)) | (k_end; kc_close) | walk1 | (dsimp only; walk1) | (leave1; walk_say "STEP leave1"; (try dsimp only)) | (refine useX (by with_reducible assumption) ?_; (try dsimp only)) | fail "no step"))
                  refine' told_c ?zC ?zF Np (hT.mono fun p hp => mem_tl (sp p hp)) (Nat.lt_trans hdl (by decide)) (fun d hd => Nat.lt_of_le_of_lt (hacc.d d hd).l (by omega)) (Nat.lt_trans hrl (by decide)) (fun x hx => (hacc.r x hx).ok (by omega)) (fun h13 tk13 nw13 v13 F13 N13 hf13 hd13 => ?_)
                  case zF => k_asm
                  case zC => tb_start
                  obtain ⟨t13, vs13, c13, rfl, _, _⟩ := tup_open hd13
                  (repeat' ((fail_if_success (with_reducible show wpAny _ _ (exec (Stmt.For _ _ _ _ _) _) _ _ _)); (fail_if_success (with_reducible show wpAny _ _ (pyIter _) _ _ _)); (fail_if_success (with_reducible show wpAny _ _ (call (Value.ref 276) _ _) _ _ _)); (fail_if_success (with_reducible show wpAny _ _ (call (Value.ref 200) _ _) _ _ _)); (fail_if_success (with_reducible show wpAny _ _ (call (Value.ref 262) _ _) _ _ _)); (fail_if_success (with_reducible show wpAny _ _ (call (Value.ref 146) _ _) _ _ _)); (fail_if_success (with_reducible show wpAny _ _ (eval (PySem.Expr.ListComp _ _ _ _) _) _ _ _)); (fail_if_success (with_reducible show wpAny _ _ (exec (Stmt.Assign _ (PySem.Expr.ListComp _ _ _ _) _) _) _ _ _)); (fail_if_success (with_reducible show CompSrc _ _ _ _ _ _ _ _ _ _ _ _ _ _)); (fail_if_success (with_reducible show SrcLP _ _ _ _ _ _ _ _ _ _ _ _ _ _ _)); (fail_if_success (with_reducible show EltPost _ _ _ _ _ _ _ _ _)); (fail_if_success (with_reducible show wpAny _ _ (noteFrame _ _) _ _ _)); (fail_if_success (with_reducible show wpAny _ _ (subscriptTail (PySem.Expr.BinOp _ _ _ _) _ (Value.ref _) _) _ _ _)); (fail_if_success (with_reducible show wpAny _ _ (binaryOp Operator.Add (Value.ref _) (Value.ref _)) _ _ _)); (fail_if_success (with_reducible show wpAny _ _ (compareOp CmpOp.NotEq (Value.ref _) (Value.ref _)) _ _ _)); first | (k_unfold; (try dsimp only)) | (k_end; kc_close) | walk1 | (dsimp only; walk1) | (leave1; walk_say "STEP leave1"; (try dsimp only)) | (refine useX (by with_reducible assumption) ?_; (try dsimp only)) | fail "no step"))
                  refine LCp.ListComp_P (F₀ := by k_asm) (by with_unfolding_all rfl) (by decide) (by rfl) (by decide) (by rfl) (by rfl) (by decide) ?_
                  (repeat' ((fail_if_success (with_reducible show wpAny _ _ (exec (Stmt.For _ _ _ _ _) _) _ _ _)); (fail_if_success (with_reducible show wpAny _ _ (pyIter _) _ _ _)); (fail_if_success (with_reducible show wpAny _ _ (call (Value.ref 276) _ _) _ _ _)); (fail_if_success (with_reducible show wpAny _ _ (call (Value.ref 200) _ _) _ _ _)); (fail_if_success (with_reducible show wpAny _ _ (call (Value.ref 262) _ _) _ _ _)); (fail_if_success (with_reducible show wpAny _ _ (call (Value.ref 146) _ _) _ _ _)); (fail_if_success (with_reducible show wpAny _ _ (eval (PySem.Expr.ListComp _ _ _ _) _) _ _ _)); (fail_if_success (with_reducible show wpAny _ _ (exec (Stmt.Assign _ (PySem.Expr.ListComp _ _ _ _) _) _) _ _ _)); (fail_if_success (with_reducible show CompSrc _ _ _ _ _ _ _ _ _ _ _ _ _ _)); (fail_if_success (with_reducible show SrcLP _ _ _ _ _ _ _ _ _ _ _ _ _ _ _)); (fail_if_success (with_reducible show EltPost _ _ _ _ _ _ _ _ _)); (fail_if_success (with_reducible show wpAny _ _ (noteFrame _ _) _ _ _)); (fail_if_success (with_reducible show wpAny _ _ (subscriptTail (PySem.Expr.BinOp _ _ _ _) _ (Value.ref _) _) _ _ _)); (fail_if_success (with_reducible show wpAny _ _ (binaryOp Operator.Add (Value.ref _) (Value.ref _)) _ _ _)); (fail_if_success (with_reducible show wpAny _ _ (compareOp CmpOp.NotEq (Value.ref _) (Value.ref _)) _ _ _)); first | (k_unfold; (try dsimp only)) | (k_end; kc_close) | walk1 | (dsimp only; walk1) | (leave1; walk_say "STEP leave1"; (try dsimp only)) | (refine useX (by with_reducible assumption) ?_; (try dsimp only)) | fail "no step"))
                  refine' srcP rfl ?zF ?zN (fun p hp => List.mem_append_right nw13 (mem_tl (sp p (s6 p hp)))) (List.mem_append_right nw13 (mem_tl hmD)) hallD5 (by rw [List.length_map]; omega) (fun d hd => by obtain ⟨x, _, rfl⟩ := List.mem_map.mp hd; exact ⟨_, _, rfl⟩) fDecl (fun da db v₁ v₂ nw14 I14 oI14 C14 oC14 D14 ys14 m14 h14 tk14 E14 hdm14 hv1 hv2 hfr14 hoC14 hxa hxb F14 N14 hoff14 hne14 => ?_) (fun nw14 ys14 g14 hfr14 hys14 => ?_)
                  case zF => k_asm
                  case zN => k_asm
                  · obtain ⟨⟨x1, x2⟩, hxm, e⟩ := List.mem_map.mp hdm14
                    cases e
                    have hlx := (hacc.d _ hxm).l
                    obtain ⟨ti, vsi, ci, rfl, hmi, hai⟩ := list_open hv2
                    have hmi2 := sp _ (s6 _ hmi)
                    have hh1 := hv1.handed
                    have hli := hai.length
                    dsimp only at hlx hli
                    (repeat' ((fail_if_success (with_reducible show wpAny _ _ (exec (Stmt.For _ _ _ _ _) _) _ _ _)); (fail_if_success (with_reducible show wpAny _ _ (pyIter _) _ _ _)); (fail_if_success (with_reducible show wpAny _ _ (call (Value.ref 276) _ _) _ _ _)); (fail_if_success (with_reducible show wpAny _ _ (call (Value.ref 200) _ _) _ _ _)); (fail_if_success (with_reducible show wpAny _ _ (call (Value.ref 262) _ _) _ _ _)); (fail_if_success (with_reducible show wpAny _ _ (call (Value.ref 146) _ _) _ _ _)); (fail_if_success (with_reducible show wpAny _ _ (eval (PySem.Expr.ListComp _ _ _ _) _) _ _ _)); (fail_if_success (with_reducible show wpAny _ _ (exec (Stmt.Assign _ (PySem.Expr.ListComp _ _ _ _) _) _) _ _ _)); (fail_if_success (with_reducible show CompSrc _ _ _ _ _ _ _ _ _ _ _ _ _ _)); (fail_if_success (with_reducible show SrcLP _ _ _ _ _ _ _ _ _ _ _ _ _ _ _)); (fail_if_success (with_reducible show EltPost _ _ _ _ _ _ _ _ _)); (fail_if_success (with_reducible show wpAny _ _ (noteFrame _ _) _ _ _)); (fail_if_success (with_reducible show wpAny _ _ (subscriptTail (PySem.Expr.BinOp _ _ _ _) _ (Value.ref _) _) _ _ _)); (fail_if_success (with_reducible show wpAny _ _ (binaryOp Operator.Add (Value.ref _) (Value.ref _)) _ _ _)); (fail_if_success (with_reducible show wpAny _ _ (compareOp CmpOp.NotEq (Value.ref _) (Value.ref _)) _ _ _)); first | (k_unfold; (try dsimp only)) | (k_end; kc_close) | walk1 | (dsimp only; walk1) | (leave1; walk_say "STEP leave1"; (try dsimp only)) | (refine useX (by with_reducible assumption) ?_; (try dsimp only)) | fail "no step"))
                    exact EltPost.mk [_, _] (by assumption) (by assumption) (Fresh.cons (by assumption) (Fresh.lt (by assumption))) (DatIn.tuple (vs := [_, _]) (.head _) (.cons (hv1.mono fun p hp => mem_tl (mem_tl (List.mem_append_right nw14 hp))) (.cons (DatIn.tuple (.tail _ (.head _)) (hai.mono fun p hp => mem_tl (mem_tl (List.mem_append_right nw14 hp)))) .nil)))
                  · unfold LCg.FinE
                    intro D14 h14 tk14 F14 N14 o14
                    have hl14 := hys14.length
                    rw [List.length_map, List.length_map] at hl14
                    (repeat' ((fail_if_success (with_reducible show wpAny _ _ (exec (Stmt.For _ _ _ _ _) _) _ _ _)); (fail_if_success (with_reducible show wpAny _ _ (pyIter _) _ _ _)); (fail_if_success (with_reducible show wpAny _ _ (call (Value.ref 276) _ _) _ _ _)); (fail_if_success (with_reducible show wpAny _ _ (call (Value.ref 200) _ _) _ _ _)); (fail_if_success (with_reducible show wpAny _ _ (call (Value.ref 262) _ _) _ _ _)); (fail_if_success (with_reducible show wpAny _ _ (call (Value.ref 146) _ _) _ _ _)); (fail_if_success (with_reducible show wpAny _ _ (eval (PySem.Expr.ListComp _ _ _ _) _) _ _ _)); (fail_if_success (with_reducible show wpAny _ _ (exec (Stmt.Assign _ (PySem.Expr.ListComp _ _ _ _) _) _) _ _ _)); (fail_if_success (with_reducible show CompSrc _ _ _ _ _ _ _ _ _ _ _ _ _ _)); (fail_if_success (with_reducible show SrcLP _ _ _ _ _ _ _ _ _ _ _ _ _ _ _)); (fail_if_success (with_reducible show EltPost _ _ _ _ _ _ _ _ _)); (fail_if_success (with_reducible show wpAny _ _ (noteFrame _ _) _ _ _)); (fail_if_success (with_reducible show wpAny _ _ (subscriptTail (PySem.Expr.BinOp _ _ _ _) _ (Value.ref _) _) _ _ _)); (fail_if_success (with_reducible show wpAny _ _ (binaryOp Operator.Add (Value.ref _) (Value.ref _)) _ _ _)); (fail_if_success (with_reducible show wpAny _ _ (compareOp CmpOp.NotEq (Value.ref _) (Value.ref _)) _ _ _)); first | (k_unfold; (try dsimp only)) | (k_end; kc_close) | walk1 | (dsimp only; walk1) | (leave1; walk_say "STEP leave1"; (try dsimp only)) | (refine useX (by with_reducible assumption) ?_; (try dsimp only)) | fail "no step"))
                    refine last_ne (by assumption) hd13 hys14 (fun p hp => (List.mem_append.mp hp).elim (fun h => List.mem_append_left _ h) fun h => List.mem_append_right nw14 (List.mem_append_right nw13 (mem_tl (sp p (s6 p h))))) hysp (fun p hp => List.mem_append_right nw14 (List.mem_append_right nw13 (mem_tl ((List.mem_append.mp hp).elim (fun h => List.mem_append_left _ h) fun h => sp p h)))) (plain_eq _ hrk) (decls_fine hacc.d) (rules_fine hacc.r) (by ktr_units) ?_
                    (repeat' ((fail_if_success (with_reducible show wpAny _ _ (exec (Stmt.For _ _ _ _ _) _) _ _ _)); (fail_if_success (with_reducible show wpAny _ _ (pyIter _) _ _ _)); (fail_if_success (with_reducible show wpAny _ _ (call (Value.ref 276) _ _) _ _ _)); (fail_if_success (with_reducible show wpAny _ _ (call (Value.ref 200) _ _) _ _ _)); (fail_if_success (with_reducible show wpAny _ _ (call (Value.ref 262) _ _) _ _ _)); (fail_if_success (with_reducible show wpAny _ _ (call (Value.ref 146) _ _) _ _ _)); (fail_if_success (with_reducible show wpAny _ _ (eval (PySem.Expr.ListComp _ _ _ _) _) _ _ _)); (fail_if_success (with_reducible show wpAny _ _ (exec (Stmt.Assign _ (PySem.Expr.ListComp _ _ _ _) _) _) _ _ _)); (fail_if_success (with_reducible show CompSrc _ _ _ _ _ _ _ _ _ _ _ _ _ _)); (fail_if_success (with_reducible show SrcLP _ _ _ _ _ _ _ _ _ _ _ _ _ _ _)); (fail_if_success (with_reducible show EltPost _ _ _ _ _ _ _ _ _)); (fail_if_success (with_reducible show wpAny _ _ (noteFrame _ _) _ _ _)); (fail_if_success (with_reducible show wpAny _ _ (subscriptTail (PySem.Expr.BinOp _ _ _ _) _ (Value.ref _) _) _ _ _)); (fail_if_success (with_reducible show wpAny _ _ (binaryOp Operator.Add (Value.ref _) (Value.ref _)) _ _ _)); (fail_if_success (with_reducible show wpAny _ _ (compareOp CmpOp.NotEq (Value.ref _) (Value.ref _)) _ _ _)); first | (k_unfold; (try dsimp only)) | (k_end; kc_close) | walk1 | (dsimp only; walk1) | (leave1; walk_say "STEP leave1"; (try dsimp only)) | (refine useX (by with_reducible assumption) ?_; (try dsimp only)) | fail "no step"))
                    have sz : ∀ p ∈ l4, p ∈ nwp ++ r9 := fun p hp => sp p (s6 p (hs5 p hp))
                    obtain ⟨n15, N15, hn15, hJ15⟩ := law_next5 (i := i + 1) (show Fr _ _ _ _ by assumption) (show News _ _ _ (_ :: _ :: _ :: _ :: (nw14 ++ (nw13 ++ (_ :: (nwp ++ r9))))) by assumption) (sz _ hI4) (sz _ hC4) (Nat.ne_of_lt hIlt) (fun p hp => sz p (hs4 p hp)) (fun p hp => hIn p (.tail _ (hsub p hp))) hne0 hcell (by with_unfolding_all rfl)
                    first | exact FStep.next (by assumption) N15 hn15 hJ15 | exact hW9 _ _ (FStep.next (by assumption) N15 hn15 hJ15)
                case pstep =>
                  intro I2 v d mp ysp cp nwp hp tkp it2 hdm hdv hyl hnp hfp p1 p2 p3 p4 hI2 hI3 Fp Np
                  refine abs_body fun X9 hX9 => ?_
                  obtain ⟨⟨hd9, als9⟩, hrm, e9⟩ := List.mem_map.mp hdm
                  have hrok := hacc.r _ hrm
                  obtain ⟨ha9, hb9, e10, hka, hkb⟩ := hrok.h
                  dsimp only at e10
                  subst e10
                  subst e9
                  obtain ⟨t9, vh9, va9, n9, rfl, ht9, hh9, haa9⟩ := pair_open hdv
                  obtain ⟨th9, vx9, vy9, m9, rfl, hth9, hvx9, hvy9⟩ := pair_open hh9
                  obtain ⟨ta9, vsa9, ca9, rfl, hma9, hall9⟩ := list_open haa9
                  have sp : ∀ p ∈ fz6, p ∈ nwp ++ r9 := fun p hp => List.mem_append_right _ (s9 p hp)
                  have ht10 := sp _ ht9
                  have hth10 := sp _ hth9
                  have hma10 := sp _ hma9
                  have hhx := hvx9.handed
                  have hpl9 : ∀ p ∈ nwp ++ r9, p.1 ≠ _ := fun p hp => (List.mem_append.mp hp).elim (hnp p) fun h => Nat.ne_of_lt ((show ∀ p ∈ r9, p.1 < _ by assumption) p h)
                  rw [map4 p1 p2 p3 p4] at Fp
                  have hlal := hrok.l
                  have hlvs := hall9.length
                  rw [List.length_map] at hlvs
                  dsimp only at hlal hlvs
                  (repeat' ((fail_if_success (with_reducible show wpAny _ _ (exec (Stmt.For _ _ _ _ _) _) _ _ _)); (fail_if_success (with_reducible show wpAny _ _ (pyIter _) _ _ _)); (fail_if_success (with_reducible show wpAny _ _ (call (Value.ref 276) _ _) _ _ _)); (fail_if_success (with_reducible show wpAny _ _ (call (Value.ref 200) _ _) _ _ _)); (fail_if_success (with_reducible show wpAny _ _ (call (Value.ref 262) _ _) _ _ _)); (fail_if_success (with_reducible show wpAny _ _ (call (Value.ref 146) _ _) _ _ _)); (fail_if_success (with_reducible show wpAny _ _ (eval (PySem.Expr.ListComp _ _ _ _) _) _ _ _)); (fail_if_success (with_reducible show wpAny _ _ (exec (Stmt.Assign _ (PySem.Expr.ListComp _ _ _ _) _) _) _ _ _)); (fail_if_success (with_reducible show CompSrc _ _ _ _ _ _ _ _ _ _ _ _ _ _)); (fail_if_success (with_reducible show SrcLP _ _ _ _ _ _ _ _ _ _ _ _ _ _ _)); (fail_if_success (with_reducible show EltPost _ _ _ _ _ _ _ _ _)); (fail_if_success (with_reducible show wpAny _ _ (noteFrame _ _) _ _ _)); (fail_if_success (with_reducible show wpAny _ _ (subscriptTail (PySem.Expr.BinOp _ _ _ _) _ (Value.ref _) _) _ _ _)); (fail_if_success (with_reducible show wpAny _ _ (binaryOp Operator.Add (Value.ref _) (Value.ref _)) _ _ _)); (fail_if_success (with_reducible show wpAny _ _ (compareOp CmpOp.NotEq (Value.ref _) (Value.ref _)) _ _ _)); first | (k_unfold; (try dsimp only)) | (k_end; kc_close) | walk1 | (dsimp only; walk1) | (leave1; walk_say "STEP leave1"; (try dsimp only)) | (refine useX (by with_reducible assumption) ?_; (try dsimp only)) | fail "no step"))
                  refine LCp.ListComp_P (F₀ := by k_asm) (by with_unfolding_all rfl) (by decide) (by rfl) (by decide) (by rfl) (by rfl) (by decide) ?_
                  (repeat' ((fail_if_success (with_reducible show wpAny _ _ (exec (Stmt.For _ _ _ _ _) _) _ _ _)); (fail_if_success (with_reducible show wpAny _ _ (pyIter _) _ _ _)); (fail_if_success (with_reducible show wpAny _ _ (call (Value.ref 276) _ _) _ _ _)); (fail_if_success (with_reducible show wpAny _ _ (call (Value.ref 200) _ _) _ _ _)); (fail_if_success (with_reducible show wpAny _ _ (call (Value.ref 262) _ _) _ _ _)); (fail_if_success (with_reducible show wpAny _ _ (call (Value.ref 146) _ _) _ _ _)); (fail_if_success (with_reducible show wpAny _ _ (eval (PySem.Expr.ListComp _ _ _ _) _) _ _ _)); (fail_if_success (with_reducible show wpAny _ _ (exec (Stmt.Assign _ (PySem.Expr.ListComp _ _ _ _) _) _) _ _ _)); (fail_if_success (with_reducible show CompSrc _ _ _ _ _ _ _ _ _ _ _ _ _ _)); (fail_if_success (with_reducible show SrcLP _ _ _ _ _ _ _ _ _ _ _ _ _ _ _)); (fail_if_success (with_reducible show EltPost _ _ _ _ _ _ _ _ _)); (fail_if_success (with_reducible show wpAny _ _ (noteFrame _ _) _ _ _)); (fail_if_success (with_reducible show wpAny _ _ (subscriptTail (PySem.Expr.BinOp _ _ _ _) _ (Value.ref _) _) _ _ _)); (fail_if_success (with_reducible show wpAny _ _ (binaryOp Operator.Add (Value.ref _) (Value.ref _)) _ _ _)); (fail_if_success (with_reducible show wpAny _ _ (compareOp CmpOp.NotEq (Value.ref _) (Value.ref _)) _ _ _)); first | (k_unfold; (try dsimp only)) | (k_end; kc_close) | walk1 | (dsimp only; walk1) | (leave1; walk_say "STEP leave1"; (try dsimp only)) | (refine useX (by with_reducible assumption) ?_; (try dsimp only)) | fail "no step"))
                  refine' srcP rfl ?zF ?zN (fun p hp => mem_tl (mem_tl (sp p hp))) (mem_tl (mem_tl hma10)) hall9 (by rw [List.length_map]; exact Nat.lt_of_le_of_lt hrok.l (by omega)) (fun d hd => by obtain ⟨x, _, rfl⟩ := List.mem_map.mp hd; exact ⟨_, _, rfl⟩) fAltL (fun da db v₁ v₂ nw10 I10 oI10 C10 oC10 D10 ys10 m10 h10 tk10 E10 hdm10 hv1 hv2 hfr10 hoC10 hxa hxb F10 N10 hoff10 hne10 => ?_) (fun nw10 ys10 g10 hfr10 hys10 => ?_)
                  case zF => k_asm
                  case zN => k_asm
                  · obtain ⟨⟨ps, qs⟩, hal, e⟩ := List.mem_map.mp hdm10
                    cases e
                    have hao := hrok.a _ hal
                    have hao1 := hao.l
                    have hao2 := hao.m
                    obtain ⟨tpa, vsp, cpa, rfl, hmp, hap⟩ := list_open hv1
                    obtain ⟨tpr, vsq, cpr, rfl, hmq, haq⟩ := list_open hv2
                    have hap1 := hap.length
                    have haq1 := haq.length
                    dsimp only at hao1 hao2 hap1 haq1
                    have hmp2 := sp _ hmp
                    have hmq2 := sp _ hmq
                    cases haq with
                    | nil =>
                      (repeat' ((fail_if_success (with_reducible show wpAny _ _ (exec (Stmt.For _ _ _ _ _) _) _ _ _)); (fail_if_success (with_reducible show wpAny _ _ (pyIter _) _ _ _)); (fail_if_success (with_reducible show wpAny _ _ (call (Value.ref 276) _ _) _ _ _)); (fail_if_success (with_reducible show wpAny _ _ (call (Value.ref 200) _ _) _ _ _)); (fail_if_success (with_reducible show wpAny _ _ (call (Value.ref 262) _ _) _ _ _)); (fail_if_success (with_reducible show wpAny _ _ (call (Value.ref 146) _ _) _ _ _)); (fail_if_success (with_reducible show wpAny _ _ (eval (PySem.Expr.ListComp _ _ _ _) _) _ _ _)); (fail_if_success (with_reducible show wpAny _ _ (exec (Stmt.Assign _ (PySem.Expr.ListComp _ _ _ _) _) _) _ _ _)); (fail_if_success (with_reducible show CompSrc _ _ _ _ _ _ _ _ _ _ _ _ _ _)); (fail_if_success (with_reducible show SrcLP _ _ _ _ _ _ _ _ _ _ _ _ _ _ _)); (fail_if_success (with_reducible show EltPost _ _ _ _ _ _ _ _ _)); (fail_if_success (with_reducible show wpAny _ _ (noteFrame _ _) _ _ _)); (fail_if_success (with_reducible show wpAny _ _ (subscriptTail (PySem.Expr.BinOp _ _ _ _) _ (Value.ref _) _) _ _ _)); (fail_if_success (with_reducible show wpAny _ _ (binaryOp Operator.Add (Value.ref _) (Value.ref _)) _ _ _)); (fail_if_success (with_reducible show wpAny _ _ (compareOp CmpOp.NotEq (Value.ref _) (Value.ref _)) _ _ _)); first | (k_unfold; (try dsimp only)) | (k_end; kc_close) | walk1 | (dsimp only; walk1) | (leave1; walk_say "STEP leave1"; (try dsimp only)) | (refine useX (by with_reducible assumption) ?_; (try dsimp only)) | fail "no step"))
                      refine' add_snoc ?zF ?zN ?z1 ?z2 ?zz (fun D11 h11 F11 N11 l11 => ?_)
                      case zF => k_asm
                      case zN => k_asm
                      case z1 => k_mem
                      case z2 => k_mem
                      case zz => omega
                      k_lt l11
                      (repeat' ((fail_if_success (with_reducible show wpAny _ _ (exec (Stmt.For _ _ _ _ _) _) _ _ _)); (fail_if_success (with_reducible show wpAny _ _ (pyIter _) _ _ _)); (fail_if_success (with_reducible show wpAny _ _ (call (Value.ref 276) _ _) _ _ _)); (fail_if_success (with_reducible show wpAny _ _ (call (Value.ref 200) _ _) _ _ _)); (fail_if_success (with_reducible show wpAny _ _ (call (Value.ref 262) _ _) _ _ _)); (fail_if_success (with_reducible show wpAny _ _ (call (Value.ref 146) _ _) _ _ _)); (fail_if_success (with_reducible show wpAny _ _ (eval (PySem.Expr.ListComp _ _ _ _) _) _ _ _)); (fail_if_success (with_reducible show wpAny _ _ (exec (Stmt.Assign _ (PySem.Expr.ListComp _ _ _ _) _) _) _ _ _)); (fail_if_success (with_reducible show CompSrc _ _ _ _ _ _ _ _ _ _ _ _ _ _)); (fail_if_success (with_reducible show SrcLP _ _ _ _ _ _ _ _ _ _ _ _ _ _ _)); (fail_if_success (with_reducible show EltPost _ _ _ _ _ _ _ _ _)); (fail_if_success (with_reducible show wpAny _ _ (noteFrame _ _) _ _ _)); (fail_if_success (with_reducible show wpAny _ _ (subscriptTail (PySem.Expr.BinOp _ _ _ _) _ (Value.ref _) _) _ _ _)); (fail_if_success (with_reducible show wpAny _ _ (binaryOp Operator.Add (Value.ref _) (Value.ref _)) _ _ _)); (fail_if_success (with_reducible show wpAny _ _ (compareOp CmpOp.NotEq (Value.ref _) (Value.ref _)) _ _ _)); first | (k_unfold; (try dsimp only)) | (k_end; kc_close) | walk1 | (dsimp only; walk1) | (leave1; walk_say "STEP leave1"; (try dsimp only)) | (refine useX (by with_reducible assumption) ?_; (try dsimp only)) | fail "no step"))
                      refine' item0 ?zN ?zm ?zv ?_ ?zs
                      case zN => k_asm
                      case zm => exact .head _
                      case zv => exact rfl
                      case zs => with_unfolding_all rfl
                      (repeat' ((fail_if_success (with_reducible show wpAny _ _ (exec (Stmt.For _ _ _ _ _) _) _ _ _)); (fail_if_success (with_reducible show wpAny _ _ (pyIter _) _ _ _)); (fail_if_success (with_reducible show wpAny _ _ (call (Value.ref 276) _ _) _ _ _)); (fail_if_success (with_reducible show wpAny _ _ (call (Value.ref 200) _ _) _ _ _)); (fail_if_success (with_reducible show wpAny _ _ (call (Value.ref 262) _ _) _ _ _)); (fail_if_success (with_reducible show wpAny _ _ (call (Value.ref 146) _ _) _ _ _)); (fail_if_success (with_reducible show wpAny _ _ (eval (PySem.Expr.ListComp _ _ _ _) _) _ _ _)); (fail_if_success (with_reducible show wpAny _ _ (exec (Stmt.Assign _ (PySem.Expr.ListComp _ _ _ _) _) _) _ _ _)); (fail_if_success (with_reducible show CompSrc _ _ _ _ _ _ _ _ _ _ _ _ _ _)); (fail_if_success (with_reducible show SrcLP _ _ _ _ _ _ _ _ _ _ _ _ _ _ _)); (fail_if_success (with_reducible show EltPost _ _ _ _ _ _ _ _ _)); (fail_if_success (with_reducible show wpAny _ _ (noteFrame _ _) _ _ _)); (fail_if_success (with_reducible show wpAny _ _ (subscriptTail (PySem.Expr.BinOp _ _ _ _) _ (Value.ref _) _) _ _ _)); (fail_if_success (with_reducible show wpAny _ _ (binaryOp Operator.Add (Value.ref _) (Value.ref _)) _ _ _)); (fail_if_success (with_reducible show wpAny _ _ (compareOp CmpOp.NotEq (Value.ref _) (Value.ref _)) _ _ _)); first | (k_unfold; (try dsimp only)) | (k_end; kc_close) | walk1 | (dsimp only; walk1) | (leave1; walk_say "STEP leave1"; (try dsimp only)) | (refine useX (by with_reducible assumption) ?_; (try dsimp only)) | fail "no step"))
                      exact alt_end (by assumption) (by assumption) (by assumption) (by assumption) (by assumption) (by assumption) (hap.mono fun p hp => List.mem_append_right nw10 hp) (.str _ _)
                    | cons hq1 hq2 =>
                      have hhq := hq1.handed
                      (repeat' ((fail_if_success (with_reducible show wpAny _ _ (exec (Stmt.For _ _ _ _ _) _) _ _ _)); (fail_if_success (with_reducible show wpAny _ _ (pyIter _) _ _ _)); (fail_if_success (with_reducible show wpAny _ _ (call (Value.ref 276) _ _) _ _ _)); (fail_if_success (with_reducible show wpAny _ _ (call (Value.ref 200) _ _) _ _ _)); (fail_if_success (with_reducible show wpAny _ _ (call (Value.ref 262) _ _) _ _ _)); (fail_if_success (with_reducible show wpAny _ _ (call (Value.ref 146) _ _) _ _ _)); (fail_if_success (with_reducible show wpAny _ _ (eval (PySem.Expr.ListComp _ _ _ _) _) _ _ _)); (fail_if_success (with_reducible show wpAny _ _ (exec (Stmt.Assign _ (PySem.Expr.ListComp _ _ _ _) _) _) _ _ _)); (fail_if_success (with_reducible show CompSrc _ _ _ _ _ _ _ _ _ _ _ _ _ _)); (fail_if_success (with_reducible show SrcLP _ _ _ _ _ _ _ _ _ _ _ _ _ _ _)); (fail_if_success (with_reducible show EltPost _ _ _ _ _ _ _ _ _)); (fail_if_success (with_reducible show wpAny _ _ (noteFrame _ _) _ _ _)); (fail_if_success (with_reducible show wpAny _ _ (subscriptTail (PySem.Expr.BinOp _ _ _ _) _ (Value.ref _) _) _ _ _)); (fail_if_success (with_reducible show wpAny _ _ (binaryOp Operator.Add (Value.ref _) (Value.ref _)) _ _ _)); (fail_if_success (with_reducible show wpAny _ _ (compareOp CmpOp.NotEq (Value.ref _) (Value.ref _)) _ _ _)); first | (k_unfold; (try dsimp only)) | (k_end; kc_close) | walk1 | (dsimp only; walk1) | (leave1; walk_say "STEP leave1"; (try dsimp only)) | (refine useX (by with_reducible assumption) ?_; (try dsimp only)) | fail "no step"))
                      refine' add_snoc ?zF ?zN ?z1 ?z2 ?zz (fun D11 h11 F11 N11 l11 => ?_)
                      case zF => k_asm
                      case zN => k_asm
                      case z1 => k_mem
                      case z2 => k_mem
                      case zz => omega
                      k_lt l11
                      (repeat' ((fail_if_success (with_reducible show wpAny _ _ (exec (Stmt.For _ _ _ _ _) _) _ _ _)); (fail_if_success (with_reducible show wpAny _ _ (pyIter _) _ _ _)); (fail_if_success (with_reducible show wpAny _ _ (call (Value.ref 276) _ _) _ _ _)); (fail_if_success (with_reducible show wpAny _ _ (call (Value.ref 200) _ _) _ _ _)); (fail_if_success (with_reducible show wpAny _ _ (call (Value.ref 262) _ _) _ _ _)); (fail_if_success (with_reducible show wpAny _ _ (call (Value.ref 146) _ _) _ _ _)); (fail_if_success (with_reducible show wpAny _ _ (eval (PySem.Expr.ListComp _ _ _ _) _) _ _ _)); (fail_if_success (with_reducible show wpAny _ _ (exec (Stmt.Assign _ (PySem.Expr.ListComp _ _ _ _) _) _) _ _ _)); (fail_if_success (with_reducible show CompSrc _ _ _ _ _ _ _ _ _ _ _ _ _ _)); (fail_if_success (with_reducible show SrcLP _ _ _ _ _ _ _ _ _ _ _ _ _ _ _)); (fail_if_success (with_reducible show EltPost _ _ _ _ _ _ _ _ _)); (fail_if_success (with_reducible show wpAny _ _ (noteFrame _ _) _ _ _)); (fail_if_success (with_reducible show wpAny _ _ (subscriptTail (PySem.Expr.BinOp _ _ _ _) _ (Value.ref _) _) _ _ _)); (fail_if_success (with_reducible show wpAny _ _ (binaryOp Operator.Add (Value.ref _) (Value.ref _)) _ _ _)); (fail_if_success (with_reducible show wpAny _ _ (compareOp CmpOp.NotEq (Value.ref _) (Value.ref _)) _ _ _)); first | (k_unfold; (try dsimp only)) | (k_end; kc_close) | walk1 | (dsimp only; walk1) | (leave1; walk_say "STEP leave1"; (try dsimp only)) | (refine useX (by with_reducible assumption) ?_; (try dsimp only)) | fail "no step"))
                      refine' item0 ?zN ?zm ?zv ?_ ?zs
                      case zN => k_asm
                      case zm => exact .head _
                      case zv => exact rfl
                      case zs => with_unfolding_all rfl
                      (repeat' ((fail_if_success (with_reducible show wpAny _ _ (exec (Stmt.For _ _ _ _ _) _) _ _ _)); (fail_if_success (with_reducible show wpAny _ _ (pyIter _) _ _ _)); (fail_if_success (with_reducible show wpAny _ _ (call (Value.ref 276) _ _) _ _ _)); (fail_if_success (with_reducible show wpAny _ _ (call (Value.ref 200) _ _) _ _ _)); (fail_if_success (with_reducible show wpAny _ _ (call (Value.ref 262) _ _) _ _ _)); (fail_if_success (with_reducible show wpAny _ _ (call (Value.ref 146) _ _) _ _ _)); (fail_if_success (with_reducible show wpAny _ _ (eval (PySem.Expr.ListComp _ _ _ _) _) _ _ _)); (fail_if_success (with_reducible show wpAny _ _ (exec (Stmt.Assign _ (PySem.Expr.ListComp _ _ _ _) _) _) _ _ _)); (fail_if_success (with_reducible show CompSrc _ _ _ _ _ _ _ _ _ _ _ _ _ _)); (fail_if_success (with_reducible show SrcLP _ _ _ _ _ _ _ _ _ _ _ _ _ _ _)); (fail_if_success (with_reducible show EltPost _ _ _ _ _ _ _ _ _)); (fail_if_success (with_reducible show wpAny _ _ (noteFrame _ _) _ _ _)); (fail_if_success (with_reducible show wpAny _ _ (subscriptTail (PySem.Expr.BinOp _ _ _ _) _ (Value.ref _) _) _ _ _)); (fail_if_success (with_reducible show wpAny _ _ (binaryOp Operator.Add (Value.ref _) (Value.ref _)) _ _ _)); (fail_if_success (with_reducible show wpAny _ _ (compareOp CmpOp.NotEq (Value.ref _) (Value.ref _)) _ _ _)); first | (k_unfold; (try dsimp only)) | (k_end; kc_close) | walk1 | (dsimp only; walk1) | (leave1; walk_say "STEP leave1"; (try dsimp only)) | (refine useX (by with_reducible assumption) ?_; (try dsimp only)) | fail "no step"))
                      exact alt_end (by assumption) (by assumption) (by assumption) (by assumption) (by assumption) (by assumption) (hap.mono fun p hp => List.mem_append_right nw10 hp) (hq1.mono fun p hp => List.mem_append_right nw10 hp)
                  · unfold LCg.FinE
                    intro D10 h10 tk10 F10 N10 o10
                    have hl10 := hys10.length
                    rw [List.length_map, List.length_map] at hl10
                    dsimp only at hl10
                    have N11 := pl_order N10
                    have o11 := off1 o10
                    have hD1 := (o11 _ (List.mem_append_right nw10 (.tail _ (.head _)))).symm
                    have hD2 := (o11 _ (List.mem_append_right nw10 (.head _))).symm
                    have hDq : ∀ p ∈ nwp ++ r9, p.1 ≠ D10 := fun p hp => o11 _ (List.mem_append_right nw10 (.tail _ (.tail _ hp)))
                    have hn1 : ∀ q ∈ nw10, q.1 ≠ _ := fun q hq => (hfr10 q hq _ (.tail _ (.head _))).symm
                    have hn2 : ∀ q ∈ nw10, q.1 ≠ I2 := fun q hq => (hfr10 q hq _ (.head _)).symm
                    have hfq : Fresh nw10 (nwp ++ r9) := hfr10.sub fun p hp => mem_tl (mem_tl hp)
                    have htl : ∀ p ∈ nw10 ++ (nwp ++ r9), p.1 ≠ _ := fun p hp => (List.mem_append.mp hp).elim (hn1 p) (hpl9 p)
                    clear N10
                    dsimp only at hD1 hD2 hn1 hn2 htl
                    rw [List.length_map] at hyl
                    have hI4 := hI3.symm
                    (repeat' ((fail_if_success (with_reducible show wpAny _ _ (exec (Stmt.For _ _ _ _ _) _) _ _ _)); (fail_if_success (with_reducible show wpAny _ _ (pyIter _) _ _ _)); (fail_if_success (with_reducible show wpAny _ _ (call (Value.ref 276) _ _) _ _ _)); (fail_if_success (with_reducible show wpAny _ _ (call (Value.ref 200) _ _) _ _ _)); (fail_if_success (with_reducible show wpAny _ _ (call (Value.ref 262) _ _) _ _ _)); (fail_if_success (with_reducible show wpAny _ _ (call (Value.ref 146) _ _) _ _ _)); (fail_if_success (with_reducible show wpAny _ _ (eval (PySem.Expr.ListComp _ _ _ _) _) _ _ _)); (fail_if_success (with_reducible show wpAny _ _ (exec (Stmt.Assign _ (PySem.Expr.ListComp _ _ _ _) _) _) _ _ _)); (fail_if_success (with_reducible show CompSrc _ _ _ _ _ _ _ _ _ _ _ _ _ _)); (fail_if_success (with_reducible show SrcLP _ _ _ _ _ _ _ _ _ _ _ _ _ _ _)); (fail_if_success (with_reducible show EltPost _ _ _ _ _ _ _ _ _)); (fail_if_success (with_reducible show wpAny _ _ (noteFrame _ _) _ _ _)); (fail_if_success (with_reducible show wpAny _ _ (subscriptTail (PySem.Expr.BinOp _ _ _ _) _ (Value.ref _) _) _ _ _)); (fail_if_success (with_reducible show wpAny _ _ (binaryOp Operator.Add (Value.ref _) (Value.ref _)) _ _ _)); (fail_if_success (with_reducible show wpAny _ _ (compareOp CmpOp.NotEq (Value.ref _) (Value.ref _)) _ _ _)); first | (k_unfold; (try dsimp only)) | (k_end; kc_close) | walk1 | (dsimp only; walk1) | (leave1; walk_say "STEP leave1"; (try dsimp only)) | (refine useX (by with_reducible assumption) ?_; (try dsimp only)) | fail "no step"))
                    obtain ⟨n12, e1, e2, e3⟩ := plain_end (d := ruleLD (.tuple [ha9, hb9], als9)) (show Fr _ _ _ _ by assumption) (by assumption) (by assumption) (by assumption) hD1 hD2 hDq hn1 hn2 hfq hI2 hI3 (hvx9.mono fun p hp => List.mem_append_right nwp hp) (hys10.mono fun p hp => (List.mem_append.mp hp).elim (fun h => List.mem_append_left _ h) fun h => List.mem_append_right _ (List.mem_append_right _ h)) rfl (by with_unfolding_all rfl) (by with_unfolding_all rfl) (by with_unfolding_all rfl) (by with_unfolding_all rfl)
                    first | exact FStep.next (by assumption) e1 e2 e3 | exact hX9 _ _ (FStep.next (by assumption) e1 e2 e3)
          · rw [hlaw'] at hS; cases hS)
end

end
end Mine
theorem PySem.Challenge.cw_on0161_01_holds : PySem.Challenge.rw_on0161_01.Holds :=
  Mine.x0
