import PyProof.Rows.All
import Wide.All
import OpenK.AllK
import Wide.FinOn
import PySem.Challenge.RW_nz0241_01
open PySem PySem.W PyProof.Rows PySem.Calls
set_option Elab.async false
set_option maxRecDepth 100000
set_option maxHeartbeats 8000000
set_option linter.all false
namespace Mine
/-- the row's program; its top; the statements' parts, by place -/
abbrev pA : Program := PySem.Challenge.rw_nz0241_01.row.toRowW.1
abbrev bA : List Stmt := behindTheImports pA
noncomputable def stA (i : Nat) : Stmt := (bA.drop i).headD (.Pass ⟨0, 0, 0, 0⟩)
noncomputable def bodyA : Stmt → List Stmt
  | .FunctionDef _ _ b _ _ _ _ _ _ _ => b
  | .ClassDef _ _ _ b _ _ _ _ _ _ _ => b
  | _ => []
noncomputable def argsA : Stmt → Arguments
  | .FunctionDef _ a _ _ _ _ _ _ _ _ => a
  | _ => ⟨[], [], none, [], [], none, []⟩
noncomputable def scopeA : Stmt → Scope
  | .FunctionDef _ _ _ _ _ _ s _ _ _ => s
  | _ => ⟨.function, [], false, false, []⟩
noncomputable def inA (i j : Nat) : Stmt := ((bodyA (stA i)).drop j).headD (.Pass ⟨0, 0, 0, 0⟩)
noncomputable def stsA (i n : Nat) : List Stmt := (bA.drop i).take n
noncomputable def enA : Env := { scope := pA.main.scope, locals := mainNs, globals := mainNs, cells := [], code := Value.ref 13, frame := some 14 }
noncomputable abbrev cA : Code := Code.body bA enA
noncomputable def dE (P : Params) (x : String) (t : Tok) (v : Value) : DictEntry := { hash := PyData.keyHash P (Str.ofString x), key := Value.str (Str.ofString x) t, val := v }
noncomputable def sV (x : String) (t : Tok) : Value := Value.str (Str.ofString x) t
noncomputable def ob43 (P : Params) : Obj := { cls := Value.type "tuple", data := Data.seq #[] }
noncomputable def ob44 (P : Params) : Obj := { cls := Value.none, data := Data.fields #[] }
noncomputable def ob45 (P : Params) : Obj := { cls := Value.type "code", data := Data.fields #[sV "<module>" 182, sV "<module>" 183, sV "/claim/cut.py" 184, Value.int 1 0, Value.int 0 0, Value.int 0 0, Value.int 0 0, Value.int 0 0, Value.ref 11, Value.bool false, Value.int 181 0, Value.ref 12, Value.none, Value.none, Value.none, Value.none, Value.int 185 0, Value.int 1 0, sV "/claim/cut.py" 186] }
noncomputable def ob46 (P : Params) : Obj := { cls := Value.type "frame", slots := #[some (Value.ref 13), some (Value.ref 3), some (Value.ref 3), none, some (sV "__main__" 164), none, some (Value.ref 0)] }
noncomputable def hp46 (P : Params) : Heap := { objs := { toList := [boot_o_0 P, boot_o_1 P, boot_o_2 P, boot_o_3 P, boot_o_4 P, boot_o_5 P, boot_o_6 P, boot_o_7 P, boot_o_8 P, boot_o_9 P, boot_o_10 P, ob43 P, ob44 P, ob45 P, ob46 P] } }
noncomputable def tr47 (P : Params) : BT := BT.node (boot_o_0 P) (BT.node (boot_o_1 P) (BT.node (boot_o_3 P) (BT.node (boot_o_7 P) BT.nil BT.nil) (BT.node (ob43 P) BT.nil BT.nil)) (BT.node (boot_o_5 P) (BT.node (boot_o_9 P) BT.nil BT.nil) (BT.node (ob45 P) BT.nil BT.nil))) (BT.node (boot_o_2 P) (BT.node (boot_o_4 P) (BT.node (boot_o_8 P) BT.nil BT.nil) (BT.node (ob44 P) BT.nil BT.nil)) (BT.node (boot_o_6 P) (BT.node (boot_o_10 P) BT.nil BT.nil) (BT.node (ob46 P) BT.nil BT.nil)))
noncomputable def ob49 (P : Params) : Obj := { cls := Value.none, data := Data.dict #[dE P "type.__subclasses__.Exception.0" 214 (Value.int 31 0), dE P "type.__subclasses__.Exception.n" 215 (Value.int 1 0)] 2 }
noncomputable def ob50 (P : Params) : Obj := { cls := Value.type "dict", data := Data.dict #[dE P "__name__" 165 (sV "pixelpress.errors" 187), dE P "__doc__" 166 Value.none, dE P "__package__" 167 Value.none, dE P "__loader__" 168 (Value.builtin "__main__.__loader__#opaque"), dE P "__spec__" 169 Value.none, dE P "__annotations__" 170 (Value.ref 6), dE P "__builtins__" 171 (Value.ref 4), dE P "__file__" 173 (sV "/claim/cut.py" 172), dE P "__cached__" 174 Value.none, dE P "PressError" 217 (Value.ref 31)] 10 }
noncomputable def ob51 (P : Params) : Obj := { cls := Value.none, data := Data.fields #[Value.int 2 0, Value.int 0 0, Value.ref 20] }
noncomputable def ob52 (P : Params) : Obj := { cls := Value.type "tuple", data := Data.seq #[Value.type "Exception"] }
noncomputable def ob53 (P : Params) : Obj := { cls := Value.type "builtin_function_or_method", data := Data.fields #[Value.builtin "type.__prepare__", Value.type "type"] }
noncomputable def ob54 (P : Params) : Obj := { cls := Value.type "dict", data := Data.dict #[dE P "__module__" 196 (sV "pixelpress.errors" 187), dE P "__qualname__" 198 (sV "PressError" 197), dE P "__firstlineno__" 200 (Value.int 2 199), dE P "__init__" 208 (Value.ref 28), dE P "__static_attributes__" 210 (Value.ref 29)] 5 }
noncomputable def ob55 (P : Params) : Obj := { cls := Value.type "tuple", data := Data.seq #[] }
noncomputable def ob56 (P : Params) : Obj := { cls := Value.none, data := Data.fields #[Value.int 4 0, Value.int 4 0, Value.ref 27] }
noncomputable def ob57 (P : Params) : Obj := { cls := Value.type "code", data := Data.fields #[sV "PressError" 191, sV "PressError" 192, sV "/claim/cut.py" 193, Value.int 2 0, Value.int 0 0, Value.int 0 0, Value.int 0 0, Value.int 0 0, Value.ref 18, Value.bool false, Value.int 181 0, Value.ref 19, Value.none, Value.none, Value.none, Value.none, Value.int 194 0, Value.int 2 0, sV "/claim/cut.py" 195] }
noncomputable def ob58 (P : Params) : Obj := { cls := Value.type "frame", slots := #[some (Value.ref 20), some (Value.ref 3), some (Value.ref 17), none, some (sV "pixelpress.errors" 187), none, some (Value.ref 0)] }
noncomputable def ob59 (P : Params) : Obj := { cls := Value.type "tuple", data := Data.seq #[] }
noncomputable def ob60 (P : Params) : Obj := { cls := Value.none, data := Data.fields #[] }
noncomputable def ob61 (P : Params) : Obj := { cls := Value.type "tuple", data := Data.seq #[sV "self" 204, sV "message" 205] }
noncomputable def ob62 (P : Params) : Obj := { cls := Value.type "tuple", data := Data.seq #[] }
noncomputable def ob63 (P : Params) : Obj := { cls := Value.none, data := Data.func { name := Str.ofString "__init__", qualname := Str.ofString "PressError.__init__", params := argsA (inA 1 0), body := FuncBody.stmts (bodyA (inA 1 0)), scope := scopeA (inA 1 0), globals := 0, closure := [], defaults := Value.none, kwdefaults := Value.none } }
noncomputable def ob64 (P : Params) : Obj := { cls := Value.type "code", data := Data.fields #[sV "__init__" 201, sV "PressError.__init__" 202, sV "/claim/cut.py" 203, Value.int 4 0, Value.int 2 0, Value.int 0 0, Value.int 0 0, Value.int 3 0, Value.ref 22, Value.bool true, Value.int 181 0, Value.ref 23, Value.none, Value.ref 24, Value.ref 25, Value.ref 26, Value.int 206 0, Value.int 4 0, sV "/claim/cut.py" 207] }
noncomputable def ob65 (P : Params) : Obj := { cls := Value.type "function", data := Data.func { name := Str.ofString "__init__", qualname := Str.ofString "PressError.__init__", params := argsA (inA 1 0), body := FuncBody.stmts (bodyA (inA 1 0)), scope := scopeA (inA 1 0), globals := 3, closure := [], defaults := Value.none, kwdefaults := Value.none, pyModule := sV "pixelpress.errors" 187, code := Value.ref 27 } }
noncomputable def ob66 (P : Params) : Obj := { cls := Value.type "tuple", data := Data.seq #[sV "message" 209] }
noncomputable def ob67 (P : Params) : Obj := { cls := Value.type "dict", data := Data.dict #[dE P "__module__" 196 (sV "pixelpress.errors" 187), dE P "__firstlineno__" 200 (Value.int 2 199), dE P "__init__" 208 (Value.ref 28), dE P "__static_attributes__" 210 (Value.ref 29), dE P "__weakref__" 212 (Value.ref 32), dE P "__doc__" 213 Value.none] 3 }
noncomputable def ob68 (P : Params) : Obj := { cls := Value.type "type", data := Data.cls { name := Str.ofString "PressError", bases := [Value.type "Exception"], mro := [Value.ref 31, Value.type "Exception", Value.type "BaseException", Value.type "object"], ns := 30, qualname := Str.ofString "PressError" }, slots := #[some (Value.ref 15), none, some (sV "PressError" 189), some (sV "PressError" 197), some (Value.builtin "Exception.__new__"), some (Value.bool true)] }
noncomputable def ob69 (P : Params) : Obj := { cls := Value.type "getset_descriptor", data := Data.fields #[sV "__weakref__" 211, Value.ref 31, Value.builtin "ExceptionGroup.__weakref__", Value.none] }
noncomputable def ob70 (P : Params) : Obj := { cls := Value.type "super", data := Data.fields #[Value.ref 31, Value.ref 31, Value.ref 31] }
noncomputable def ob71 (P : Params) : Obj := { cls := Value.type "builtin_function_or_method", data := Data.fields #[Value.builtin "object.__init_subclass__", Value.ref 31] }
noncomputable def tr71 (P : Params) : BT := BT.node (boot_o_0 P) (BT.node (boot_o_1 P) (BT.node (ob50 P) (BT.node (boot_o_7 P) (BT.node (ob52 P) (BT.node (ob68 P) BT.nil BT.nil) BT.nil) (BT.node (ob60 P) BT.nil BT.nil)) (BT.node (ob43 P) (BT.node (ob56 P) BT.nil BT.nil) (BT.node (ob64 P) BT.nil BT.nil))) (BT.node (boot_o_5 P) (BT.node (boot_o_9 P) (BT.node (ob54 P) (BT.node (ob70 P) BT.nil BT.nil) BT.nil) (BT.node (ob62 P) BT.nil BT.nil)) (BT.node (ob45 P) (BT.node (ob58 P) BT.nil BT.nil) (BT.node (ob66 P) BT.nil BT.nil)))) (BT.node (ob49 P) (BT.node (boot_o_4 P) (BT.node (boot_o_8 P) (BT.node (ob53 P) (BT.node (ob69 P) BT.nil BT.nil) BT.nil) (BT.node (ob61 P) BT.nil BT.nil)) (BT.node (ob51 P) (BT.node (ob57 P) BT.nil BT.nil) (BT.node (ob65 P) BT.nil BT.nil))) (BT.node (boot_o_6 P) (BT.node (boot_o_10 P) (BT.node (ob55 P) (BT.node (ob71 P) BT.nil BT.nil) BT.nil) (BT.node (ob63 P) BT.nil BT.nil)) (BT.node (ob46 P) (BT.node (ob59 P) BT.nil BT.nil) (BT.node (ob67 P) BT.nil BT.nil))))
noncomputable def ob72 (P : Params) : Obj := { cls := Value.type "dict", data := Data.dict #[dE P "__name__" 165 (sV "pixelpress.planes" 234), dE P "__doc__" 166 Value.none, dE P "__package__" 167 Value.none, dE P "__loader__" 168 (Value.builtin "__main__.__loader__#opaque"), dE P "__spec__" 169 Value.none, dE P "__annotations__" 170 (Value.ref 6), dE P "__builtins__" 171 (Value.ref 4), dE P "__file__" 173 (sV "/claim/cut.py" 172), dE P "__cached__" 174 Value.none, dE P "PressError" 217 (Value.ref 31), dE P "RangeError" 233 (Value.ref 44)] 11 }
noncomputable def ob73 (P : Params) : Obj := { cls := Value.none, data := Data.fields #[Value.int 2 0, Value.int 0 0, Value.ref 20, Value.int 7 0, Value.int 0 0, Value.ref 40] }
noncomputable def ob74 (P : Params) : Obj := { cls := Value.type "type", data := Data.cls { name := Str.ofString "PressError", bases := [Value.type "Exception"], mro := [Value.ref 31, Value.type "Exception", Value.type "BaseException", Value.type "object"], ns := 30, qualname := Str.ofString "PressError", subclasses := [Value.ref 44] }, slots := #[some (Value.ref 15), none, some (sV "PressError" 189), some (sV "PressError" 197), some (Value.builtin "Exception.__new__"), some (Value.bool true)] }
noncomputable def ob75 (P : Params) : Obj := { cls := Value.type "tuple", data := Data.seq #[Value.ref 31] }
noncomputable def ob76 (P : Params) : Obj := { cls := Value.type "builtin_function_or_method", data := Data.fields #[Value.builtin "type.__prepare__", Value.type "type"] }
noncomputable def ob77 (P : Params) : Obj := { cls := Value.type "dict", data := Data.dict #[dE P "__module__" 225 (sV "pixelpress.errors" 187), dE P "__qualname__" 227 (sV "RangeError" 226), dE P "__firstlineno__" 229 (Value.int 7 228), dE P "__static_attributes__" 230 (Value.ref 42)] 4 }
noncomputable def ob78 (P : Params) : Obj := { cls := Value.type "tuple", data := Data.seq #[] }
noncomputable def ob79 (P : Params) : Obj := { cls := Value.none, data := Data.fields #[] }
noncomputable def ob80 (P : Params) : Obj := { cls := Value.type "code", data := Data.fields #[sV "RangeError" 220, sV "RangeError" 221, sV "/claim/cut.py" 222, Value.int 7 0, Value.int 0 0, Value.int 0 0, Value.int 0 0, Value.int 0 0, Value.ref 38, Value.bool false, Value.int 181 0, Value.ref 39, Value.none, Value.none, Value.none, Value.none, Value.int 223 0, Value.int 7 0, sV "/claim/cut.py" 224] }
noncomputable def ob81 (P : Params) : Obj := { cls := Value.type "frame", slots := #[some (Value.ref 40), some (Value.ref 3), some (Value.ref 37), none, some (sV "pixelpress.errors" 187), none, some (Value.ref 0)] }
noncomputable def ob82 (P : Params) : Obj := { cls := Value.type "tuple", data := Data.seq #[] }
noncomputable def ob83 (P : Params) : Obj := { cls := Value.type "dict", data := Data.dict #[dE P "__module__" 225 (sV "pixelpress.errors" 187), dE P "__firstlineno__" 229 (Value.int 7 228), dE P "__static_attributes__" 230 (Value.ref 42), dE P "__doc__" 231 Value.none] 2 }
noncomputable def ob84 (P : Params) : Obj := { cls := Value.type "type", data := Data.cls { name := Str.ofString "RangeError", bases := [Value.ref 31], mro := [Value.ref 44, Value.ref 31, Value.type "Exception", Value.type "BaseException", Value.type "object"], ns := 43, qualname := Str.ofString "RangeError" }, slots := #[some (Value.ref 35), none, some (sV "RangeError" 218), some (sV "RangeError" 226), some (Value.builtin "Exception.__new__"), some (Value.bool true)] }
noncomputable def ob85 (P : Params) : Obj := { cls := Value.type "super", data := Data.fields #[Value.ref 44, Value.ref 44, Value.ref 44] }
noncomputable def ob86 (P : Params) : Obj := { cls := Value.type "builtin_function_or_method", data := Data.fields #[Value.builtin "object.__init_subclass__", Value.ref 44] }
noncomputable def tr86 (P : Params) : BT := BT.node (boot_o_0 P) (BT.node (boot_o_1 P) (BT.node (ob72 P) (BT.node (boot_o_7 P) (BT.node (ob52 P) (BT.node (ob74 P) BT.nil BT.nil) BT.nil) (BT.node (ob60 P) (BT.node (ob79 P) BT.nil BT.nil) BT.nil)) (BT.node (ob43 P) (BT.node (ob56 P) (BT.node (ob75 P) BT.nil BT.nil) BT.nil) (BT.node (ob64 P) (BT.node (ob83 P) BT.nil BT.nil) BT.nil))) (BT.node (boot_o_5 P) (BT.node (boot_o_9 P) (BT.node (ob54 P) (BT.node (ob70 P) BT.nil BT.nil) BT.nil) (BT.node (ob62 P) (BT.node (ob81 P) BT.nil BT.nil) BT.nil)) (BT.node (ob45 P) (BT.node (ob58 P) (BT.node (ob77 P) BT.nil BT.nil) BT.nil) (BT.node (ob66 P) (BT.node (ob85 P) BT.nil BT.nil) BT.nil)))) (BT.node (ob49 P) (BT.node (boot_o_4 P) (BT.node (boot_o_8 P) (BT.node (ob53 P) (BT.node (ob69 P) BT.nil BT.nil) BT.nil) (BT.node (ob61 P) (BT.node (ob80 P) BT.nil BT.nil) BT.nil)) (BT.node (ob73 P) (BT.node (ob57 P) (BT.node (ob76 P) BT.nil BT.nil) BT.nil) (BT.node (ob65 P) (BT.node (ob84 P) BT.nil BT.nil) BT.nil))) (BT.node (boot_o_6 P) (BT.node (boot_o_10 P) (BT.node (ob55 P) (BT.node (ob71 P) BT.nil BT.nil) BT.nil) (BT.node (ob63 P) (BT.node (ob82 P) BT.nil BT.nil) BT.nil)) (BT.node (ob46 P) (BT.node (ob59 P) (BT.node (ob78 P) BT.nil BT.nil) BT.nil) (BT.node (ob67 P) (BT.node (ob86 P) BT.nil BT.nil) BT.nil))))
noncomputable def ob87 (P : Params) : Obj := { cls := Value.type "dict", data := Data.dict #[dE P "__name__" 165 (sV "pixelpress.planes" 234), dE P "__doc__" 166 Value.none, dE P "__package__" 167 Value.none, dE P "__loader__" 168 (Value.builtin "__main__.__loader__#opaque"), dE P "__spec__" 169 Value.none, dE P "__annotations__" 170 (Value.ref 6), dE P "__builtins__" 171 (Value.ref 4), dE P "__file__" 173 (sV "/claim/cut.py" 172), dE P "__cached__" 174 Value.none, dE P "PressError" 217 (Value.ref 31), dE P "RangeError" 233 (Value.ref 44), dE P "Plane" 287 (Value.ref 77), dE P "kept_in" 295 (Value.ref 88), dE P "plane_of" 301 (Value.ref 93), dE P "cut" 307 (Value.ref 98)] 15 }
noncomputable def ob88 (P : Params) : Obj := { cls := Value.none, data := Data.fields #[Value.int 2 0, Value.int 0 0, Value.ref 20, Value.int 7 0, Value.int 0 0, Value.ref 40, Value.int 10 0, Value.int 0 0, Value.ref 52, Value.int 23 0, Value.int 0 0, Value.ref 87, Value.int 27 0, Value.int 0 0, Value.ref 92, Value.int 31 0, Value.int 0 0, Value.ref 97] }
noncomputable def ob89 (P : Params) : Obj := { cls := Value.type "tuple", data := Data.seq #[] }
noncomputable def ob90 (P : Params) : Obj := { cls := Value.type "builtin_function_or_method", data := Data.fields #[Value.builtin "type.__prepare__", Value.type "type"] }
noncomputable def ob91 (P : Params) : Obj := { cls := Value.type "dict", data := Data.dict #[dE P "__module__" 243 (sV "pixelpress.planes" 234), dE P "__qualname__" 245 (sV "Plane" 244), dE P "__firstlineno__" 247 (Value.int 10 246), dE P "__init__" 257 (Value.ref 60), dE P "at" 266 (Value.ref 67), dE P "put" 276 (Value.ref 74), dE P "__static_attributes__" 280 (Value.ref 75)] 7 }
noncomputable def ob92 (P : Params) : Obj := { cls := Value.type "tuple", data := Data.seq #[] }
noncomputable def ob93 (P : Params) : Obj := { cls := Value.none, data := Data.fields #[Value.int 12 0, Value.int 4 0, Value.ref 59, Value.int 17 0, Value.int 4 0, Value.ref 66, Value.int 20 0, Value.int 4 0, Value.ref 73] }
noncomputable def ob94 (P : Params) : Obj := { cls := Value.type "code", data := Data.fields #[sV "Plane" 238, sV "Plane" 239, sV "/claim/cut.py" 240, Value.int 10 0, Value.int 0 0, Value.int 0 0, Value.int 0 0, Value.int 0 0, Value.ref 50, Value.bool false, Value.int 181 0, Value.ref 51, Value.none, Value.none, Value.none, Value.none, Value.int 241 0, Value.int 10 0, sV "/claim/cut.py" 242] }
noncomputable def ob95 (P : Params) : Obj := { cls := Value.type "frame", slots := #[some (Value.ref 52), some (Value.ref 3), some (Value.ref 49), none, some (sV "pixelpress.planes" 234), none, some (Value.ref 0)] }
noncomputable def ob96 (P : Params) : Obj := { cls := Value.type "tuple", data := Data.seq #[] }
noncomputable def ob97 (P : Params) : Obj := { cls := Value.none, data := Data.fields #[] }
noncomputable def ob98 (P : Params) : Obj := { cls := Value.type "tuple", data := Data.seq #[sV "self" 251, sV "width" 252, sV "height" 253, sV "rows" 254] }
noncomputable def ob99 (P : Params) : Obj := { cls := Value.type "tuple", data := Data.seq #[] }
noncomputable def ob100 (P : Params) : Obj := { cls := Value.none, data := Data.func { name := Str.ofString "__init__", qualname := Str.ofString "Plane.__init__", params := argsA (inA 4 0), body := FuncBody.stmts (bodyA (inA 4 0)), scope := scopeA (inA 4 0), globals := 0, closure := [], defaults := Value.none, kwdefaults := Value.none } }
noncomputable def ob101 (P : Params) : Obj := { cls := Value.type "code", data := Data.fields #[sV "__init__" 248, sV "Plane.__init__" 249, sV "/claim/cut.py" 250, Value.int 12 0, Value.int 4 0, Value.int 0 0, Value.int 0 0, Value.int 3 0, Value.ref 54, Value.bool true, Value.int 181 0, Value.ref 55, Value.none, Value.ref 56, Value.ref 57, Value.ref 58, Value.int 255 0, Value.int 12 0, sV "/claim/cut.py" 256] }
noncomputable def ob102 (P : Params) : Obj := { cls := Value.type "function", data := Data.func { name := Str.ofString "__init__", qualname := Str.ofString "Plane.__init__", params := argsA (inA 4 0), body := FuncBody.stmts (bodyA (inA 4 0)), scope := scopeA (inA 4 0), globals := 3, closure := [], defaults := Value.none, kwdefaults := Value.none, pyModule := sV "pixelpress.planes" 234, code := Value.ref 59 } }
noncomputable def ob103 (P : Params) : Obj := { cls := Value.type "tuple", data := Data.seq #[] }
noncomputable def ob104 (P : Params) : Obj := { cls := Value.none, data := Data.fields #[] }
noncomputable def ob105 (P : Params) : Obj := { cls := Value.type "tuple", data := Data.seq #[sV "self" 261, sV "x" 262, sV "y" 263] }
noncomputable def ob106 (P : Params) : Obj := { cls := Value.type "tuple", data := Data.seq #[] }
noncomputable def ob107 (P : Params) : Obj := { cls := Value.none, data := Data.func { name := Str.ofString "at", qualname := Str.ofString "Plane.at", params := argsA (inA 4 1), body := FuncBody.stmts (bodyA (inA 4 1)), scope := scopeA (inA 4 1), globals := 0, closure := [], defaults := Value.none, kwdefaults := Value.none } }
noncomputable def ob108 (P : Params) : Obj := { cls := Value.type "code", data := Data.fields #[sV "at" 258, sV "Plane.at" 259, sV "/claim/cut.py" 260, Value.int 17 0, Value.int 3 0, Value.int 0 0, Value.int 0 0, Value.int 3 0, Value.ref 61, Value.bool true, Value.int 181 0, Value.ref 62, Value.none, Value.ref 63, Value.ref 64, Value.ref 65, Value.int 264 0, Value.int 17 0, sV "/claim/cut.py" 265] }
noncomputable def ob109 (P : Params) : Obj := { cls := Value.type "function", data := Data.func { name := Str.ofString "at", qualname := Str.ofString "Plane.at", params := argsA (inA 4 1), body := FuncBody.stmts (bodyA (inA 4 1)), scope := scopeA (inA 4 1), globals := 3, closure := [], defaults := Value.none, kwdefaults := Value.none, pyModule := sV "pixelpress.planes" 234, code := Value.ref 66 } }
noncomputable def ob110 (P : Params) : Obj := { cls := Value.type "tuple", data := Data.seq #[] }
noncomputable def ob111 (P : Params) : Obj := { cls := Value.none, data := Data.fields #[] }
noncomputable def ob112 (P : Params) : Obj := { cls := Value.type "tuple", data := Data.seq #[sV "self" 270, sV "x" 271, sV "y" 272, sV "value" 273] }
noncomputable def ob113 (P : Params) : Obj := { cls := Value.type "tuple", data := Data.seq #[] }
noncomputable def ob114 (P : Params) : Obj := { cls := Value.none, data := Data.func { name := Str.ofString "put", qualname := Str.ofString "Plane.put", params := argsA (inA 4 2), body := FuncBody.stmts (bodyA (inA 4 2)), scope := scopeA (inA 4 2), globals := 0, closure := [], defaults := Value.none, kwdefaults := Value.none } }
noncomputable def ob115 (P : Params) : Obj := { cls := Value.type "code", data := Data.fields #[sV "put" 267, sV "Plane.put" 268, sV "/claim/cut.py" 269, Value.int 20 0, Value.int 4 0, Value.int 0 0, Value.int 0 0, Value.int 3 0, Value.ref 68, Value.bool true, Value.int 181 0, Value.ref 69, Value.none, Value.ref 70, Value.ref 71, Value.ref 72, Value.int 274 0, Value.int 20 0, sV "/claim/cut.py" 275] }
noncomputable def ob116 (P : Params) : Obj := { cls := Value.type "function", data := Data.func { name := Str.ofString "put", qualname := Str.ofString "Plane.put", params := argsA (inA 4 2), body := FuncBody.stmts (bodyA (inA 4 2)), scope := scopeA (inA 4 2), globals := 3, closure := [], defaults := Value.none, kwdefaults := Value.none, pyModule := sV "pixelpress.planes" 234, code := Value.ref 73 } }
noncomputable def ob117 (P : Params) : Obj := { cls := Value.type "tuple", data := Data.seq #[sV "height" 277, sV "rows" 278, sV "width" 279] }
noncomputable def ob118 (P : Params) : Obj := { cls := Value.type "dict", data := Data.dict #[dE P "__module__" 243 (sV "pixelpress.planes" 234), dE P "__firstlineno__" 247 (Value.int 10 246), dE P "__init__" 257 (Value.ref 60), dE P "at" 266 (Value.ref 67), dE P "put" 276 (Value.ref 74), dE P "__static_attributes__" 280 (Value.ref 75), dE P "__dict__" 282 (Value.ref 78), dE P "__weakref__" 284 (Value.ref 79), dE P "__doc__" 285 Value.none] 4 }
noncomputable def ob119 (P : Params) : Obj := { cls := Value.type "type", data := Data.cls { name := Str.ofString "Plane", bases := [Value.type "object"], mro := [Value.ref 77, Value.type "object"], ns := 76, qualname := Str.ofString "Plane" }, slots := #[none, none, some (sV "Plane" 236), some (sV "Plane" 244), some (Value.builtin "object.__new__"), some (Value.bool true)] }
noncomputable def ob120 (P : Params) : Obj := { cls := Value.type "getset_descriptor", data := Data.fields #[sV "__dict__" 281, Value.ref 77, Value.builtin "function.__dict__", Value.builtin "function.__dict__#set"] }
noncomputable def ob121 (P : Params) : Obj := { cls := Value.type "getset_descriptor", data := Data.fields #[sV "__weakref__" 283, Value.ref 77, Value.builtin "ExceptionGroup.__weakref__", Value.none] }
noncomputable def ob122 (P : Params) : Obj := { cls := Value.type "super", data := Data.fields #[Value.ref 77, Value.ref 77, Value.ref 77] }
noncomputable def ob123 (P : Params) : Obj := { cls := Value.type "builtin_function_or_method", data := Data.fields #[Value.builtin "object.__init_subclass__", Value.ref 77] }
noncomputable def ob124 (P : Params) : Obj := { cls := Value.type "tuple", data := Data.seq #[] }
noncomputable def ob125 (P : Params) : Obj := { cls := Value.none, data := Data.fields #[] }
noncomputable def ob126 (P : Params) : Obj := { cls := Value.type "tuple", data := Data.seq #[sV "place" 291, sV "size" 292] }
noncomputable def ob127 (P : Params) : Obj := { cls := Value.type "tuple", data := Data.seq #[] }
noncomputable def ob128 (P : Params) : Obj := { cls := Value.none, data := Data.func { name := Str.ofString "kept_in", qualname := Str.ofString "kept_in", params := argsA (stA 5), body := FuncBody.stmts (bodyA (stA 5)), scope := scopeA (stA 5), globals := 0, closure := [], defaults := Value.none, kwdefaults := Value.none } }
noncomputable def ob129 (P : Params) : Obj := { cls := Value.type "code", data := Data.fields #[sV "kept_in" 288, sV "kept_in" 289, sV "/claim/cut.py" 290, Value.int 23 0, Value.int 2 0, Value.int 0 0, Value.int 0 0, Value.int 3 0, Value.ref 82, Value.bool true, Value.int 181 0, Value.ref 83, Value.none, Value.ref 84, Value.ref 85, Value.ref 86, Value.int 293 0, Value.int 23 0, sV "/claim/cut.py" 294] }
noncomputable def ob130 (P : Params) : Obj := { cls := Value.type "function", data := Data.func { name := Str.ofString "kept_in", qualname := Str.ofString "kept_in", params := argsA (stA 5), body := FuncBody.stmts (bodyA (stA 5)), scope := scopeA (stA 5), globals := 3, closure := [], defaults := Value.none, kwdefaults := Value.none, pyModule := sV "pixelpress.planes" 234, code := Value.ref 87 } }
noncomputable def ob131 (P : Params) : Obj := { cls := Value.type "tuple", data := Data.seq #[] }
noncomputable def ob132 (P : Params) : Obj := { cls := Value.none, data := Data.fields #[] }
noncomputable def ob133 (P : Params) : Obj := { cls := Value.none, data := Data.func { name := Str.ofString "plane_of", qualname := Str.ofString "plane_of", params := argsA (stA 6), body := FuncBody.stmts (bodyA (stA 6)), scope := scopeA (stA 6), globals := 0, closure := [], defaults := Value.none, kwdefaults := Value.none } }
noncomputable def ob134 (P : Params) : Obj := { cls := Value.type "code", data := Data.fields #[sV "plane_of" 296, sV "plane_of" 297, sV "/claim/cut.py" 298, Value.int 27 0, Value.int 1 0, Value.int 0 0, Value.int 0 0, Value.int 3 0, Value.ref 89, Value.bool true, Value.int 181 0, Value.ref 90, Value.none, Value.none, Value.none, Value.ref 91, Value.int 299 0, Value.int 27 0, sV "/claim/cut.py" 300] }
noncomputable def ob135 (P : Params) : Obj := { cls := Value.type "function", data := Data.func { name := Str.ofString "plane_of", qualname := Str.ofString "plane_of", params := argsA (stA 6), body := FuncBody.stmts (bodyA (stA 6)), scope := scopeA (stA 6), globals := 3, closure := [], defaults := Value.none, kwdefaults := Value.none, pyModule := sV "pixelpress.planes" 234, code := Value.ref 92 } }
noncomputable def ob136 (P : Params) : Obj := { cls := Value.type "tuple", data := Data.seq #[] }
noncomputable def ob137 (P : Params) : Obj := { cls := Value.none, data := Data.fields #[] }
noncomputable def ob138 (P : Params) : Obj := { cls := Value.none, data := Data.func { name := Str.ofString "cut", qualname := Str.ofString "cut", params := argsA (stA 7), body := FuncBody.stmts (bodyA (stA 7)), scope := scopeA (stA 7), globals := 0, closure := [], defaults := Value.none, kwdefaults := Value.none } }
noncomputable def ob139 (P : Params) : Obj := { cls := Value.type "code", data := Data.fields #[sV "cut" 302, sV "cut" 303, sV "/claim/cut.py" 304, Value.int 31 0, Value.int 5 0, Value.int 0 0, Value.int 0 0, Value.int 3 0, Value.ref 94, Value.bool true, Value.int 181 0, Value.ref 95, Value.none, Value.none, Value.none, Value.ref 96, Value.int 305 0, Value.int 31 0, sV "/claim/cut.py" 306] }
noncomputable def ob140 (P : Params) : Obj := { cls := Value.type "function", data := Data.func { name := Str.ofString "cut", qualname := Str.ofString "cut", params := argsA (stA 7), body := FuncBody.stmts (bodyA (stA 7)), scope := scopeA (stA 7), globals := 3, closure := [], defaults := Value.none, kwdefaults := Value.none, pyModule := sV "pixelpress.planes" 234, code := Value.ref 97 } }
noncomputable def tr140 (P : Params) : BT := BT.node (boot_o_0 P) (BT.node (boot_o_1 P) (BT.node (ob87 P) (BT.node (boot_o_7 P) (BT.node (ob52 P) (BT.node (ob74 P) (BT.node (ob105 P) BT.nil BT.nil) (BT.node (ob137 P) BT.nil BT.nil)) (BT.node (ob89 P) (BT.node (ob121 P) BT.nil BT.nil) BT.nil)) (BT.node (ob60 P) (BT.node (ob79 P) (BT.node (ob113 P) BT.nil BT.nil) BT.nil) (BT.node (ob97 P) (BT.node (ob129 P) BT.nil BT.nil) BT.nil))) (BT.node (ob43 P) (BT.node (ob56 P) (BT.node (ob75 P) (BT.node (ob109 P) BT.nil BT.nil) BT.nil) (BT.node (ob93 P) (BT.node (ob125 P) BT.nil BT.nil) BT.nil)) (BT.node (ob64 P) (BT.node (ob83 P) (BT.node (ob117 P) BT.nil BT.nil) BT.nil) (BT.node (ob101 P) (BT.node (ob133 P) BT.nil BT.nil) BT.nil)))) (BT.node (boot_o_5 P) (BT.node (boot_o_9 P) (BT.node (ob54 P) (BT.node (ob70 P) (BT.node (ob107 P) BT.nil BT.nil) (BT.node (ob139 P) BT.nil BT.nil)) (BT.node (ob91 P) (BT.node (ob123 P) BT.nil BT.nil) BT.nil)) (BT.node (ob62 P) (BT.node (ob81 P) (BT.node (ob115 P) BT.nil BT.nil) BT.nil) (BT.node (ob99 P) (BT.node (ob131 P) BT.nil BT.nil) BT.nil))) (BT.node (ob45 P) (BT.node (ob58 P) (BT.node (ob77 P) (BT.node (ob111 P) BT.nil BT.nil) BT.nil) (BT.node (ob95 P) (BT.node (ob127 P) BT.nil BT.nil) BT.nil)) (BT.node (ob66 P) (BT.node (ob85 P) (BT.node (ob119 P) BT.nil BT.nil) BT.nil) (BT.node (ob103 P) (BT.node (ob135 P) BT.nil BT.nil) BT.nil))))) (BT.node (ob49 P) (BT.node (boot_o_4 P) (BT.node (boot_o_8 P) (BT.node (ob53 P) (BT.node (ob69 P) (BT.node (ob106 P) BT.nil BT.nil) (BT.node (ob138 P) BT.nil BT.nil)) (BT.node (ob90 P) (BT.node (ob122 P) BT.nil BT.nil) BT.nil)) (BT.node (ob61 P) (BT.node (ob80 P) (BT.node (ob114 P) BT.nil BT.nil) BT.nil) (BT.node (ob98 P) (BT.node (ob130 P) BT.nil BT.nil) BT.nil))) (BT.node (ob88 P) (BT.node (ob57 P) (BT.node (ob76 P) (BT.node (ob110 P) BT.nil BT.nil) BT.nil) (BT.node (ob94 P) (BT.node (ob126 P) BT.nil BT.nil) BT.nil)) (BT.node (ob65 P) (BT.node (ob84 P) (BT.node (ob118 P) BT.nil BT.nil) BT.nil) (BT.node (ob102 P) (BT.node (ob134 P) BT.nil BT.nil) BT.nil)))) (BT.node (boot_o_6 P) (BT.node (boot_o_10 P) (BT.node (ob55 P) (BT.node (ob71 P) (BT.node (ob108 P) BT.nil BT.nil) (BT.node (ob140 P) BT.nil BT.nil)) (BT.node (ob92 P) (BT.node (ob124 P) BT.nil BT.nil) BT.nil)) (BT.node (ob63 P) (BT.node (ob82 P) (BT.node (ob116 P) BT.nil BT.nil) BT.nil) (BT.node (ob100 P) (BT.node (ob132 P) BT.nil BT.nil) BT.nil))) (BT.node (ob46 P) (BT.node (ob59 P) (BT.node (ob78 P) (BT.node (ob112 P) BT.nil BT.nil) BT.nil) (BT.node (ob96 P) (BT.node (ob128 P) BT.nil BT.nil) BT.nil)) (BT.node (ob67 P) (BT.node (ob86 P) (BT.node (ob120 P) BT.nil BT.nil) BT.nil) (BT.node (ob104 P) (BT.node (ob136 P) BT.nil BT.nil) BT.nil)))))
noncomputable def ob141 (P : Params) : Obj := { cls := Value.type "dict", data := Data.dict #[dE P "__name__" 165 (sV "law_nz0241_01" 335), dE P "__doc__" 166 Value.none, dE P "__package__" 167 Value.none, dE P "__loader__" 168 (Value.builtin "__main__.__loader__#opaque"), dE P "__spec__" 169 Value.none, dE P "__annotations__" 170 (Value.ref 6), dE P "__builtins__" 171 (Value.ref 4), dE P "__file__" 173 (sV "/claim/cut.py" 172), dE P "__cached__" 174 Value.none, dE P "PressError" 217 (Value.ref 31), dE P "RangeError" 233 (Value.ref 44), dE P "Plane" 287 (Value.ref 77), dE P "kept_in" 295 (Value.ref 88), dE P "plane_of" 301 (Value.ref 93), dE P "cut" 307 (Value.ref 98), dE P "same_plane" 315 (Value.ref 105), dE P "greatest_difference" 328 (Value.ref 112), dE P "turned_plane" 334 (Value.ref 117), dE P "_law_pool" 347 (Value.ref 124), dE P "_law_take" 356 (Value.ref 131), dE P "_law_one" 364 (Value.ref 138), dE P "_law_rows" 370 (Value.ref 143), dE P "_law_spot" 381 (Value.ref 150), dE P "_law_turned" 387 (Value.ref 155), dE P "_law_is_turned_right" 401 (Value.ref 162), dE P "_law_refused" 409 (Value.ref 169), dE P "_law_near" 417 (Value.ref 176)] 27 }
noncomputable def ob142 (P : Params) : Obj := { cls := Value.none, data := Data.fields #[Value.int 2 0, Value.int 0 0, Value.ref 20, Value.int 7 0, Value.int 0 0, Value.ref 40, Value.int 10 0, Value.int 0 0, Value.ref 52, Value.int 23 0, Value.int 0 0, Value.ref 87, Value.int 27 0, Value.int 0 0, Value.ref 92, Value.int 31 0, Value.int 0 0, Value.ref 97, Value.int 36 0, Value.int 0 0, Value.ref 104, Value.int 38 0, Value.int 0 0, Value.ref 111, Value.int 46 0, Value.int 0 0, Value.ref 116, Value.int 58 0, Value.int 0 0, Value.ref 123, Value.int 65 0, Value.int 0 0, Value.ref 130, Value.int 72 0, Value.int 0 0, Value.ref 137, Value.int 74 0, Value.int 0 0, Value.ref 142, Value.int 77 0, Value.int 0 0, Value.ref 149, Value.int 85 0, Value.int 0 0, Value.ref 154, Value.int 96 0, Value.int 0 0, Value.ref 161, Value.int 110 0, Value.int 0 0, Value.ref 168, Value.int 116 0, Value.int 0 0, Value.ref 175] }
noncomputable def ob143 (P : Params) : Obj := { cls := Value.type "tuple", data := Data.seq #[] }
noncomputable def ob144 (P : Params) : Obj := { cls := Value.none, data := Data.fields #[] }
noncomputable def ob145 (P : Params) : Obj := { cls := Value.type "tuple", data := Data.seq #[sV "one" 311, sV "other" 312] }
noncomputable def ob146 (P : Params) : Obj := { cls := Value.type "tuple", data := Data.seq #[] }
noncomputable def ob147 (P : Params) : Obj := { cls := Value.none, data := Data.func { name := Str.ofString "same_plane", qualname := Str.ofString "same_plane", params := argsA (stA 8), body := FuncBody.stmts (bodyA (stA 8)), scope := scopeA (stA 8), globals := 0, closure := [], defaults := Value.none, kwdefaults := Value.none } }
noncomputable def ob148 (P : Params) : Obj := { cls := Value.type "code", data := Data.fields #[sV "same_plane" 308, sV "same_plane" 309, sV "/claim/cut.py" 310, Value.int 36 0, Value.int 2 0, Value.int 0 0, Value.int 0 0, Value.int 3 0, Value.ref 99, Value.bool true, Value.int 181 0, Value.ref 100, Value.none, Value.ref 101, Value.ref 102, Value.ref 103, Value.int 313 0, Value.int 36 0, sV "/claim/cut.py" 314] }
noncomputable def ob149 (P : Params) : Obj := { cls := Value.type "function", data := Data.func { name := Str.ofString "same_plane", qualname := Str.ofString "same_plane", params := argsA (stA 8), body := FuncBody.stmts (bodyA (stA 8)), scope := scopeA (stA 8), globals := 3, closure := [], defaults := Value.none, kwdefaults := Value.none, pyModule := sV "pixelpress.planes" 234, code := Value.ref 104 } }
noncomputable def ob150 (P : Params) : Obj := { cls := Value.type "tuple", data := Data.seq #[] }
noncomputable def ob151 (P : Params) : Obj := { cls := Value.none, data := Data.fields #[] }
noncomputable def ob152 (P : Params) : Obj := { cls := Value.type "tuple", data := Data.seq #[sV "one" 319, sV "other" 320, sV "most" 321, sV "first" 322, sV "second" 323, sV "here" 324, sV "there" 325] }
noncomputable def ob153 (P : Params) : Obj := { cls := Value.type "tuple", data := Data.seq #[] }
noncomputable def ob154 (P : Params) : Obj := { cls := Value.none, data := Data.func { name := Str.ofString "greatest_difference", qualname := Str.ofString "greatest_difference", params := argsA (stA 9), body := FuncBody.stmts (bodyA (stA 9)), scope := scopeA (stA 9), globals := 0, closure := [], defaults := Value.none, kwdefaults := Value.none } }
noncomputable def ob155 (P : Params) : Obj := { cls := Value.type "code", data := Data.fields #[sV "greatest_difference" 316, sV "greatest_difference" 317, sV "/claim/cut.py" 318, Value.int 38 0, Value.int 2 0, Value.int 0 0, Value.int 0 0, Value.int 3 0, Value.ref 106, Value.bool true, Value.int 181 0, Value.ref 107, Value.none, Value.ref 108, Value.ref 109, Value.ref 110, Value.int 326 0, Value.int 38 0, sV "/claim/cut.py" 327] }
noncomputable def ob156 (P : Params) : Obj := { cls := Value.type "function", data := Data.func { name := Str.ofString "greatest_difference", qualname := Str.ofString "greatest_difference", params := argsA (stA 9), body := FuncBody.stmts (bodyA (stA 9)), scope := scopeA (stA 9), globals := 3, closure := [], defaults := Value.none, kwdefaults := Value.none, pyModule := sV "pixelpress.planes" 234, code := Value.ref 111 } }
noncomputable def ob157 (P : Params) : Obj := { cls := Value.type "tuple", data := Data.seq #[] }
noncomputable def ob158 (P : Params) : Obj := { cls := Value.none, data := Data.fields #[] }
noncomputable def ob159 (P : Params) : Obj := { cls := Value.none, data := Data.func { name := Str.ofString "turned_plane", qualname := Str.ofString "turned_plane", params := argsA (stA 10), body := FuncBody.stmts (bodyA (stA 10)), scope := scopeA (stA 10), globals := 0, closure := [], defaults := Value.none, kwdefaults := Value.none } }
noncomputable def ob160 (P : Params) : Obj := { cls := Value.type "code", data := Data.fields #[sV "turned_plane" 329, sV "turned_plane" 330, sV "/claim/cut.py" 331, Value.int 46 0, Value.int 2 0, Value.int 0 0, Value.int 0 0, Value.int 3 0, Value.ref 113, Value.bool true, Value.int 181 0, Value.ref 114, Value.none, Value.none, Value.none, Value.ref 115, Value.int 332 0, Value.int 46 0, sV "/claim/cut.py" 333] }
noncomputable def ob161 (P : Params) : Obj := { cls := Value.type "function", data := Data.func { name := Str.ofString "turned_plane", qualname := Str.ofString "turned_plane", params := argsA (stA 10), body := FuncBody.stmts (bodyA (stA 10)), scope := scopeA (stA 10), globals := 3, closure := [], defaults := Value.none, kwdefaults := Value.none, pyModule := sV "pixelpress.planes" 234, code := Value.ref 116 } }
noncomputable def ob162 (P : Params) : Obj := { cls := Value.type "tuple", data := Data.seq #[] }
noncomputable def ob163 (P : Params) : Obj := { cls := Value.none, data := Data.fields #[] }
noncomputable def ob164 (P : Params) : Obj := { cls := Value.type "tuple", data := Data.seq #[sV "script" 340, sV "k" 341, sV "cell" 342, sV "big" 343, sV "mixed" 344] }
noncomputable def ob165 (P : Params) : Obj := { cls := Value.type "tuple", data := Data.seq #[] }
noncomputable def ob166 (P : Params) : Obj := { cls := Value.none, data := Data.func { name := Str.ofString "_law_pool", qualname := Str.ofString "_law_pool", params := argsA (stA 12), body := FuncBody.stmts (bodyA (stA 12)), scope := scopeA (stA 12), globals := 0, closure := [], defaults := Value.none, kwdefaults := Value.none } }
noncomputable def ob167 (P : Params) : Obj := { cls := Value.type "code", data := Data.fields #[sV "_law_pool" 337, sV "_law_pool" 338, sV "/claim/cut.py" 339, Value.int 58 0, Value.int 2 0, Value.int 0 0, Value.int 0 0, Value.int 3 0, Value.ref 118, Value.bool true, Value.int 181 0, Value.ref 119, Value.none, Value.ref 120, Value.ref 121, Value.ref 122, Value.int 345 0, Value.int 58 0, sV "/claim/cut.py" 346] }
noncomputable def ob168 (P : Params) : Obj := { cls := Value.type "function", data := Data.func { name := Str.ofString "_law_pool", qualname := Str.ofString "_law_pool", params := argsA (stA 12), body := FuncBody.stmts (bodyA (stA 12)), scope := scopeA (stA 12), globals := 3, closure := [], defaults := Value.none, kwdefaults := Value.none, pyModule := sV "law_nz0241_01" 335, code := Value.ref 123 } }
noncomputable def ob169 (P : Params) : Obj := { cls := Value.type "tuple", data := Data.seq #[] }
noncomputable def ob170 (P : Params) : Obj := { cls := Value.none, data := Data.fields #[] }
noncomputable def ob171 (P : Params) : Obj := { cls := Value.type "tuple", data := Data.seq #[sV "source" 351, sV "top" 352, sV "digit" 353] }
noncomputable def ob172 (P : Params) : Obj := { cls := Value.type "tuple", data := Data.seq #[] }
noncomputable def ob173 (P : Params) : Obj := { cls := Value.none, data := Data.func { name := Str.ofString "_law_take", qualname := Str.ofString "_law_take", params := argsA (stA 13), body := FuncBody.stmts (bodyA (stA 13)), scope := scopeA (stA 13), globals := 0, closure := [], defaults := Value.none, kwdefaults := Value.none } }
noncomputable def ob174 (P : Params) : Obj := { cls := Value.type "code", data := Data.fields #[sV "_law_take" 348, sV "_law_take" 349, sV "/claim/cut.py" 350, Value.int 65 0, Value.int 2 0, Value.int 0 0, Value.int 0 0, Value.int 3 0, Value.ref 125, Value.bool true, Value.int 181 0, Value.ref 126, Value.none, Value.ref 127, Value.ref 128, Value.ref 129, Value.int 354 0, Value.int 65 0, sV "/claim/cut.py" 355] }
noncomputable def ob175 (P : Params) : Obj := { cls := Value.type "function", data := Data.func { name := Str.ofString "_law_take", qualname := Str.ofString "_law_take", params := argsA (stA 13), body := FuncBody.stmts (bodyA (stA 13)), scope := scopeA (stA 13), globals := 3, closure := [], defaults := Value.none, kwdefaults := Value.none, pyModule := sV "law_nz0241_01" 335, code := Value.ref 130 } }
noncomputable def ob176 (P : Params) : Obj := { cls := Value.type "tuple", data := Data.seq #[] }
noncomputable def ob177 (P : Params) : Obj := { cls := Value.none, data := Data.fields #[] }
noncomputable def ob178 (P : Params) : Obj := { cls := Value.type "tuple", data := Data.seq #[sV "source" 360, sV "things" 361] }
noncomputable def ob179 (P : Params) : Obj := { cls := Value.type "tuple", data := Data.seq #[] }
noncomputable def ob180 (P : Params) : Obj := { cls := Value.none, data := Data.func { name := Str.ofString "_law_one", qualname := Str.ofString "_law_one", params := argsA (stA 14), body := FuncBody.stmts (bodyA (stA 14)), scope := scopeA (stA 14), globals := 0, closure := [], defaults := Value.none, kwdefaults := Value.none } }
noncomputable def ob181 (P : Params) : Obj := { cls := Value.type "code", data := Data.fields #[sV "_law_one" 357, sV "_law_one" 358, sV "/claim/cut.py" 359, Value.int 72 0, Value.int 2 0, Value.int 0 0, Value.int 0 0, Value.int 3 0, Value.ref 132, Value.bool true, Value.int 181 0, Value.ref 133, Value.none, Value.ref 134, Value.ref 135, Value.ref 136, Value.int 362 0, Value.int 72 0, sV "/claim/cut.py" 363] }
noncomputable def ob182 (P : Params) : Obj := { cls := Value.type "function", data := Data.func { name := Str.ofString "_law_one", qualname := Str.ofString "_law_one", params := argsA (stA 14), body := FuncBody.stmts (bodyA (stA 14)), scope := scopeA (stA 14), globals := 3, closure := [], defaults := Value.none, kwdefaults := Value.none, pyModule := sV "law_nz0241_01" 335, code := Value.ref 137 } }
noncomputable def ob183 (P : Params) : Obj := { cls := Value.type "tuple", data := Data.seq #[] }
noncomputable def ob184 (P : Params) : Obj := { cls := Value.none, data := Data.fields #[] }
noncomputable def ob185 (P : Params) : Obj := { cls := Value.none, data := Data.func { name := Str.ofString "_law_rows", qualname := Str.ofString "_law_rows", params := argsA (stA 15), body := FuncBody.stmts (bodyA (stA 15)), scope := scopeA (stA 15), globals := 0, closure := [], defaults := Value.none, kwdefaults := Value.none } }
noncomputable def ob186 (P : Params) : Obj := { cls := Value.type "code", data := Data.fields #[sV "_law_rows" 365, sV "_law_rows" 366, sV "/claim/cut.py" 367, Value.int 74 0, Value.int 1 0, Value.int 0 0, Value.int 0 0, Value.int 3 0, Value.ref 139, Value.bool true, Value.int 181 0, Value.ref 140, Value.none, Value.none, Value.none, Value.ref 141, Value.int 368 0, Value.int 74 0, sV "/claim/cut.py" 369] }
noncomputable def ob187 (P : Params) : Obj := { cls := Value.type "function", data := Data.func { name := Str.ofString "_law_rows", qualname := Str.ofString "_law_rows", params := argsA (stA 15), body := FuncBody.stmts (bodyA (stA 15)), scope := scopeA (stA 15), globals := 3, closure := [], defaults := Value.none, kwdefaults := Value.none, pyModule := sV "law_nz0241_01" 335, code := Value.ref 142 } }
noncomputable def ob188 (P : Params) : Obj := { cls := Value.type "tuple", data := Data.seq #[] }
noncomputable def ob189 (P : Params) : Obj := { cls := Value.none, data := Data.fields #[] }
noncomputable def ob190 (P : Params) : Obj := { cls := Value.type "tuple", data := Data.seq #[sV "word" 374, sV "x" 375, sV "y" 376, sV "wide" 377, sV "high" 378] }
noncomputable def ob191 (P : Params) : Obj := { cls := Value.type "tuple", data := Data.seq #[] }
noncomputable def ob192 (P : Params) : Obj := { cls := Value.none, data := Data.func { name := Str.ofString "_law_spot", qualname := Str.ofString "_law_spot", params := argsA (stA 16), body := FuncBody.stmts (bodyA (stA 16)), scope := scopeA (stA 16), globals := 0, closure := [], defaults := Value.none, kwdefaults := Value.none } }
noncomputable def ob193 (P : Params) : Obj := { cls := Value.type "code", data := Data.fields #[sV "_law_spot" 371, sV "_law_spot" 372, sV "/claim/cut.py" 373, Value.int 77 0, Value.int 5 0, Value.int 0 0, Value.int 0 0, Value.int 3 0, Value.ref 144, Value.bool true, Value.int 181 0, Value.ref 145, Value.none, Value.ref 146, Value.ref 147, Value.ref 148, Value.int 379 0, Value.int 77 0, sV "/claim/cut.py" 380] }
noncomputable def ob194 (P : Params) : Obj := { cls := Value.type "function", data := Data.func { name := Str.ofString "_law_spot", qualname := Str.ofString "_law_spot", params := argsA (stA 16), body := FuncBody.stmts (bodyA (stA 16)), scope := scopeA (stA 16), globals := 3, closure := [], defaults := Value.none, kwdefaults := Value.none, pyModule := sV "law_nz0241_01" 335, code := Value.ref 149 } }
noncomputable def ob195 (P : Params) : Obj := { cls := Value.type "tuple", data := Data.seq #[] }
noncomputable def ob196 (P : Params) : Obj := { cls := Value.none, data := Data.fields #[] }
noncomputable def ob197 (P : Params) : Obj := { cls := Value.none, data := Data.func { name := Str.ofString "_law_turned", qualname := Str.ofString "_law_turned", params := argsA (stA 17), body := FuncBody.stmts (bodyA (stA 17)), scope := scopeA (stA 17), globals := 0, closure := [], defaults := Value.none, kwdefaults := Value.none } }
noncomputable def ob198 (P : Params) : Obj := { cls := Value.type "code", data := Data.fields #[sV "_law_turned" 382, sV "_law_turned" 383, sV "/claim/cut.py" 384, Value.int 85 0, Value.int 2 0, Value.int 0 0, Value.int 0 0, Value.int 3 0, Value.ref 151, Value.bool true, Value.int 181 0, Value.ref 152, Value.none, Value.none, Value.none, Value.ref 153, Value.int 385 0, Value.int 85 0, sV "/claim/cut.py" 386] }
noncomputable def ob199 (P : Params) : Obj := { cls := Value.type "function", data := Data.func { name := Str.ofString "_law_turned", qualname := Str.ofString "_law_turned", params := argsA (stA 17), body := FuncBody.stmts (bodyA (stA 17)), scope := scopeA (stA 17), globals := 3, closure := [], defaults := Value.none, kwdefaults := Value.none, pyModule := sV "law_nz0241_01" 335, code := Value.ref 154 } }
noncomputable def ob200 (P : Params) : Obj := { cls := Value.type "tuple", data := Data.seq #[] }
noncomputable def ob201 (P : Params) : Obj := { cls := Value.none, data := Data.fields #[] }
noncomputable def ob202 (P : Params) : Obj := { cls := Value.type "tuple", data := Data.seq #[sV "plane" 391, sV "word" 392, sV "opposite" 393, sV "other" 394, sV "due" 395, sV "twice" 396, sV "swapped" 397, sV "crossed" 398] }
noncomputable def ob203 (P : Params) : Obj := { cls := Value.type "tuple", data := Data.seq #[] }
noncomputable def ob204 (P : Params) : Obj := { cls := Value.none, data := Data.func { name := Str.ofString "_law_is_turned_right", qualname := Str.ofString "_law_is_turned_right", params := argsA (stA 18), body := FuncBody.stmts (bodyA (stA 18)), scope := scopeA (stA 18), globals := 0, closure := [], defaults := Value.none, kwdefaults := Value.none } }
noncomputable def ob205 (P : Params) : Obj := { cls := Value.type "code", data := Data.fields #[sV "_law_is_turned_right" 388, sV "_law_is_turned_right" 389, sV "/claim/cut.py" 390, Value.int 96 0, Value.int 2 0, Value.int 0 0, Value.int 0 0, Value.int 3 0, Value.ref 156, Value.bool true, Value.int 181 0, Value.ref 157, Value.none, Value.ref 158, Value.ref 159, Value.ref 160, Value.int 399 0, Value.int 96 0, sV "/claim/cut.py" 400] }
noncomputable def ob206 (P : Params) : Obj := { cls := Value.type "function", data := Data.func { name := Str.ofString "_law_is_turned_right", qualname := Str.ofString "_law_is_turned_right", params := argsA (stA 18), body := FuncBody.stmts (bodyA (stA 18)), scope := scopeA (stA 18), globals := 3, closure := [], defaults := Value.none, kwdefaults := Value.none, pyModule := sV "law_nz0241_01" 335, code := Value.ref 161 } }
noncomputable def ob207 (P : Params) : Obj := { cls := Value.type "tuple", data := Data.seq #[] }
noncomputable def ob208 (P : Params) : Obj := { cls := Value.none, data := Data.fields #[] }
noncomputable def ob209 (P : Params) : Obj := { cls := Value.type "tuple", data := Data.seq #[sV "deed" 405, sV "e" 406] }
noncomputable def ob210 (P : Params) : Obj := { cls := Value.type "tuple", data := Data.seq #[] }
noncomputable def ob211 (P : Params) : Obj := { cls := Value.none, data := Data.func { name := Str.ofString "_law_refused", qualname := Str.ofString "_law_refused", params := argsA (stA 19), body := FuncBody.stmts (bodyA (stA 19)), scope := scopeA (stA 19), globals := 0, closure := [], defaults := Value.none, kwdefaults := Value.none } }
noncomputable def ob212 (P : Params) : Obj := { cls := Value.type "code", data := Data.fields #[sV "_law_refused" 402, sV "_law_refused" 403, sV "/claim/cut.py" 404, Value.int 110 0, Value.int 1 0, Value.int 0 0, Value.int 0 0, Value.int 3 0, Value.ref 163, Value.bool true, Value.int 181 0, Value.ref 164, Value.none, Value.ref 165, Value.ref 166, Value.ref 167, Value.int 407 0, Value.int 110 0, sV "/claim/cut.py" 408] }
noncomputable def ob213 (P : Params) : Obj := { cls := Value.type "function", data := Data.func { name := Str.ofString "_law_refused", qualname := Str.ofString "_law_refused", params := argsA (stA 19), body := FuncBody.stmts (bodyA (stA 19)), scope := scopeA (stA 19), globals := 3, closure := [], defaults := Value.none, kwdefaults := Value.none, pyModule := sV "law_nz0241_01" 335, code := Value.ref 168 } }
noncomputable def ob214 (P : Params) : Obj := { cls := Value.type "tuple", data := Data.seq #[] }
noncomputable def ob215 (P : Params) : Obj := { cls := Value.none, data := Data.fields #[] }
noncomputable def ob216 (P : Params) : Obj := { cls := Value.type "tuple", data := Data.seq #[sV "place" 413, sV "size" 414] }
noncomputable def ob217 (P : Params) : Obj := { cls := Value.type "tuple", data := Data.seq #[] }
noncomputable def ob218 (P : Params) : Obj := { cls := Value.none, data := Data.func { name := Str.ofString "_law_near", qualname := Str.ofString "_law_near", params := argsA (stA 20), body := FuncBody.stmts (bodyA (stA 20)), scope := scopeA (stA 20), globals := 0, closure := [], defaults := Value.none, kwdefaults := Value.none } }
noncomputable def ob219 (P : Params) : Obj := { cls := Value.type "code", data := Data.fields #[sV "_law_near" 410, sV "_law_near" 411, sV "/claim/cut.py" 412, Value.int 116 0, Value.int 2 0, Value.int 0 0, Value.int 0 0, Value.int 3 0, Value.ref 170, Value.bool true, Value.int 181 0, Value.ref 171, Value.none, Value.ref 172, Value.ref 173, Value.ref 174, Value.int 415 0, Value.int 116 0, sV "/claim/cut.py" 416] }
noncomputable def ob220 (P : Params) : Obj := { cls := Value.type "function", data := Data.func { name := Str.ofString "_law_near", qualname := Str.ofString "_law_near", params := argsA (stA 20), body := FuncBody.stmts (bodyA (stA 20)), scope := scopeA (stA 20), globals := 3, closure := [], defaults := Value.none, kwdefaults := Value.none, pyModule := sV "law_nz0241_01" 335, code := Value.ref 175 } }
noncomputable def tr220 (P : Params) : BT := BT.node (boot_o_0 P) (BT.node (boot_o_1 P) (BT.node (ob141 P) (BT.node (boot_o_7 P) (BT.node (ob52 P) (BT.node (ob74 P) (BT.node (ob105 P) (BT.node (ob171 P) BT.nil BT.nil) BT.nil) (BT.node (ob137 P) (BT.node (ob203 P) BT.nil BT.nil) BT.nil)) (BT.node (ob89 P) (BT.node (ob121 P) (BT.node (ob187 P) BT.nil BT.nil) BT.nil) (BT.node (ob155 P) (BT.node (ob219 P) BT.nil BT.nil) BT.nil))) (BT.node (ob60 P) (BT.node (ob79 P) (BT.node (ob113 P) (BT.node (ob179 P) BT.nil BT.nil) BT.nil) (BT.node (ob147 P) (BT.node (ob211 P) BT.nil BT.nil) BT.nil)) (BT.node (ob97 P) (BT.node (ob129 P) (BT.node (ob195 P) BT.nil BT.nil) BT.nil) (BT.node (ob163 P) BT.nil BT.nil)))) (BT.node (ob43 P) (BT.node (ob56 P) (BT.node (ob75 P) (BT.node (ob109 P) (BT.node (ob175 P) BT.nil BT.nil) BT.nil) (BT.node (ob143 P) (BT.node (ob207 P) BT.nil BT.nil) BT.nil)) (BT.node (ob93 P) (BT.node (ob125 P) (BT.node (ob191 P) BT.nil BT.nil) BT.nil) (BT.node (ob159 P) BT.nil BT.nil))) (BT.node (ob64 P) (BT.node (ob83 P) (BT.node (ob117 P) (BT.node (ob183 P) BT.nil BT.nil) BT.nil) (BT.node (ob151 P) (BT.node (ob215 P) BT.nil BT.nil) BT.nil)) (BT.node (ob101 P) (BT.node (ob133 P) (BT.node (ob199 P) BT.nil BT.nil) BT.nil) (BT.node (ob167 P) BT.nil BT.nil))))) (BT.node (boot_o_5 P) (BT.node (boot_o_9 P) (BT.node (ob54 P) (BT.node (ob70 P) (BT.node (ob107 P) (BT.node (ob173 P) BT.nil BT.nil) BT.nil) (BT.node (ob139 P) (BT.node (ob205 P) BT.nil BT.nil) BT.nil)) (BT.node (ob91 P) (BT.node (ob123 P) (BT.node (ob189 P) BT.nil BT.nil) BT.nil) (BT.node (ob157 P) BT.nil BT.nil))) (BT.node (ob62 P) (BT.node (ob81 P) (BT.node (ob115 P) (BT.node (ob181 P) BT.nil BT.nil) BT.nil) (BT.node (ob149 P) (BT.node (ob213 P) BT.nil BT.nil) BT.nil)) (BT.node (ob99 P) (BT.node (ob131 P) (BT.node (ob197 P) BT.nil BT.nil) BT.nil) (BT.node (ob165 P) BT.nil BT.nil)))) (BT.node (ob45 P) (BT.node (ob58 P) (BT.node (ob77 P) (BT.node (ob111 P) (BT.node (ob177 P) BT.nil BT.nil) BT.nil) (BT.node (ob145 P) (BT.node (ob209 P) BT.nil BT.nil) BT.nil)) (BT.node (ob95 P) (BT.node (ob127 P) (BT.node (ob193 P) BT.nil BT.nil) BT.nil) (BT.node (ob161 P) BT.nil BT.nil))) (BT.node (ob66 P) (BT.node (ob85 P) (BT.node (ob119 P) (BT.node (ob185 P) BT.nil BT.nil) BT.nil) (BT.node (ob153 P) (BT.node (ob217 P) BT.nil BT.nil) BT.nil)) (BT.node (ob103 P) (BT.node (ob135 P) (BT.node (ob201 P) BT.nil BT.nil) BT.nil) (BT.node (ob169 P) BT.nil BT.nil)))))) (BT.node (ob49 P) (BT.node (boot_o_4 P) (BT.node (boot_o_8 P) (BT.node (ob53 P) (BT.node (ob69 P) (BT.node (ob106 P) (BT.node (ob172 P) BT.nil BT.nil) BT.nil) (BT.node (ob138 P) (BT.node (ob204 P) BT.nil BT.nil) BT.nil)) (BT.node (ob90 P) (BT.node (ob122 P) (BT.node (ob188 P) BT.nil BT.nil) BT.nil) (BT.node (ob156 P) (BT.node (ob220 P) BT.nil BT.nil) BT.nil))) (BT.node (ob61 P) (BT.node (ob80 P) (BT.node (ob114 P) (BT.node (ob180 P) BT.nil BT.nil) BT.nil) (BT.node (ob148 P) (BT.node (ob212 P) BT.nil BT.nil) BT.nil)) (BT.node (ob98 P) (BT.node (ob130 P) (BT.node (ob196 P) BT.nil BT.nil) BT.nil) (BT.node (ob164 P) BT.nil BT.nil)))) (BT.node (ob142 P) (BT.node (ob57 P) (BT.node (ob76 P) (BT.node (ob110 P) (BT.node (ob176 P) BT.nil BT.nil) BT.nil) (BT.node (ob144 P) (BT.node (ob208 P) BT.nil BT.nil) BT.nil)) (BT.node (ob94 P) (BT.node (ob126 P) (BT.node (ob192 P) BT.nil BT.nil) BT.nil) (BT.node (ob160 P) BT.nil BT.nil))) (BT.node (ob65 P) (BT.node (ob84 P) (BT.node (ob118 P) (BT.node (ob184 P) BT.nil BT.nil) BT.nil) (BT.node (ob152 P) (BT.node (ob216 P) BT.nil BT.nil) BT.nil)) (BT.node (ob102 P) (BT.node (ob134 P) (BT.node (ob200 P) BT.nil BT.nil) BT.nil) (BT.node (ob168 P) BT.nil BT.nil))))) (BT.node (boot_o_6 P) (BT.node (boot_o_10 P) (BT.node (ob55 P) (BT.node (ob71 P) (BT.node (ob108 P) (BT.node (ob174 P) BT.nil BT.nil) BT.nil) (BT.node (ob140 P) (BT.node (ob206 P) BT.nil BT.nil) BT.nil)) (BT.node (ob92 P) (BT.node (ob124 P) (BT.node (ob190 P) BT.nil BT.nil) BT.nil) (BT.node (ob158 P) BT.nil BT.nil))) (BT.node (ob63 P) (BT.node (ob82 P) (BT.node (ob116 P) (BT.node (ob182 P) BT.nil BT.nil) BT.nil) (BT.node (ob150 P) (BT.node (ob214 P) BT.nil BT.nil) BT.nil)) (BT.node (ob100 P) (BT.node (ob132 P) (BT.node (ob198 P) BT.nil BT.nil) BT.nil) (BT.node (ob166 P) BT.nil BT.nil)))) (BT.node (ob46 P) (BT.node (ob59 P) (BT.node (ob78 P) (BT.node (ob112 P) (BT.node (ob178 P) BT.nil BT.nil) BT.nil) (BT.node (ob146 P) (BT.node (ob210 P) BT.nil BT.nil) BT.nil)) (BT.node (ob96 P) (BT.node (ob128 P) (BT.node (ob194 P) BT.nil BT.nil) BT.nil) (BT.node (ob162 P) BT.nil BT.nil))) (BT.node (ob67 P) (BT.node (ob86 P) (BT.node (ob120 P) (BT.node (ob186 P) BT.nil BT.nil) BT.nil) (BT.node (ob154 P) (BT.node (ob218 P) BT.nil BT.nil) BT.nil)) (BT.node (ob104 P) (BT.node (ob136 P) (BT.node (ob202 P) BT.nil BT.nil) BT.nil) (BT.node (ob170 P) BT.nil BT.nil))))))
noncomputable def ob221 (P : Params) : Obj := { cls := Value.type "dict", data := Data.dict #[dE P "__name__" 165 (sV "law_nz0241_01" 335), dE P "__doc__" 166 Value.none, dE P "__package__" 167 Value.none, dE P "__loader__" 168 (Value.builtin "__main__.__loader__#opaque"), dE P "__spec__" 169 Value.none, dE P "__annotations__" 170 (Value.ref 6), dE P "__builtins__" 171 (Value.ref 4), dE P "__file__" 173 (sV "/claim/cut.py" 172), dE P "__cached__" 174 Value.none, dE P "PressError" 217 (Value.ref 31), dE P "RangeError" 233 (Value.ref 44), dE P "Plane" 287 (Value.ref 77), dE P "kept_in" 295 (Value.ref 88), dE P "plane_of" 301 (Value.ref 93), dE P "cut" 307 (Value.ref 98), dE P "same_plane" 315 (Value.ref 105), dE P "greatest_difference" 328 (Value.ref 112), dE P "turned_plane" 334 (Value.ref 117), dE P "_law_pool" 347 (Value.ref 124), dE P "_law_take" 356 (Value.ref 131), dE P "_law_one" 364 (Value.ref 138), dE P "_law_rows" 370 (Value.ref 143), dE P "_law_spot" 381 (Value.ref 150), dE P "_law_turned" 387 (Value.ref 155), dE P "_law_is_turned_right" 401 (Value.ref 162), dE P "_law_refused" 409 (Value.ref 169), dE P "_law_near" 417 (Value.ref 176), dE P "_law_cut_right" 423 (Value.ref 181), dE P "_law_apart_right" 429 (Value.ref 186), dE P "law" 435 (Value.ref 191)] 30 }
noncomputable def ob222 (P : Params) : Obj := { cls := Value.none, data := Data.fields #[Value.int 2 0, Value.int 0 0, Value.ref 20, Value.int 7 0, Value.int 0 0, Value.ref 40, Value.int 10 0, Value.int 0 0, Value.ref 52, Value.int 23 0, Value.int 0 0, Value.ref 87, Value.int 27 0, Value.int 0 0, Value.ref 92, Value.int 31 0, Value.int 0 0, Value.ref 97, Value.int 36 0, Value.int 0 0, Value.ref 104, Value.int 38 0, Value.int 0 0, Value.ref 111, Value.int 46 0, Value.int 0 0, Value.ref 116, Value.int 58 0, Value.int 0 0, Value.ref 123, Value.int 65 0, Value.int 0 0, Value.ref 130, Value.int 72 0, Value.int 0 0, Value.ref 137, Value.int 74 0, Value.int 0 0, Value.ref 142, Value.int 77 0, Value.int 0 0, Value.ref 149, Value.int 85 0, Value.int 0 0, Value.ref 154, Value.int 96 0, Value.int 0 0, Value.ref 161, Value.int 110 0, Value.int 0 0, Value.ref 168, Value.int 116 0, Value.int 0 0, Value.ref 175, Value.int 120 0, Value.int 0 0, Value.ref 180, Value.int 138 0, Value.int 0 0, Value.ref 185, Value.int 154 0, Value.int 0 0, Value.ref 190] }
noncomputable def ob223 (P : Params) : Obj := { cls := Value.type "tuple", data := Data.seq #[] }
noncomputable def ob224 (P : Params) : Obj := { cls := Value.none, data := Data.fields #[] }
noncomputable def ob225 (P : Params) : Obj := { cls := Value.none, data := Data.func { name := Str.ofString "_law_cut_right", qualname := Str.ofString "_law_cut_right", params := argsA (stA 21), body := FuncBody.stmts (bodyA (stA 21)), scope := scopeA (stA 21), globals := 0, closure := [], defaults := Value.none, kwdefaults := Value.none } }
noncomputable def ob226 (P : Params) : Obj := { cls := Value.type "code", data := Data.fields #[sV "_law_cut_right" 418, sV "_law_cut_right" 419, sV "/claim/cut.py" 420, Value.int 120 0, Value.int 2 0, Value.int 0 0, Value.int 0 0, Value.int 3 0, Value.ref 177, Value.bool true, Value.int 181 0, Value.ref 178, Value.none, Value.none, Value.none, Value.ref 179, Value.int 421 0, Value.int 120 0, sV "/claim/cut.py" 422] }
noncomputable def ob227 (P : Params) : Obj := { cls := Value.type "function", data := Data.func { name := Str.ofString "_law_cut_right", qualname := Str.ofString "_law_cut_right", params := argsA (stA 21), body := FuncBody.stmts (bodyA (stA 21)), scope := scopeA (stA 21), globals := 3, closure := [], defaults := Value.none, kwdefaults := Value.none, pyModule := sV "law_nz0241_01" 335, code := Value.ref 180 } }
noncomputable def ob228 (P : Params) : Obj := { cls := Value.type "tuple", data := Data.seq #[] }
noncomputable def ob229 (P : Params) : Obj := { cls := Value.none, data := Data.fields #[] }
noncomputable def ob230 (P : Params) : Obj := { cls := Value.none, data := Data.func { name := Str.ofString "_law_apart_right", qualname := Str.ofString "_law_apart_right", params := argsA (stA 22), body := FuncBody.stmts (bodyA (stA 22)), scope := scopeA (stA 22), globals := 0, closure := [], defaults := Value.none, kwdefaults := Value.none } }
noncomputable def ob231 (P : Params) : Obj := { cls := Value.type "code", data := Data.fields #[sV "_law_apart_right" 424, sV "_law_apart_right" 425, sV "/claim/cut.py" 426, Value.int 138 0, Value.int 2 0, Value.int 0 0, Value.int 0 0, Value.int 3 0, Value.ref 182, Value.bool true, Value.int 181 0, Value.ref 183, Value.none, Value.none, Value.none, Value.ref 184, Value.int 427 0, Value.int 138 0, sV "/claim/cut.py" 428] }
noncomputable def ob232 (P : Params) : Obj := { cls := Value.type "function", data := Data.func { name := Str.ofString "_law_apart_right", qualname := Str.ofString "_law_apart_right", params := argsA (stA 22), body := FuncBody.stmts (bodyA (stA 22)), scope := scopeA (stA 22), globals := 3, closure := [], defaults := Value.none, kwdefaults := Value.none, pyModule := sV "law_nz0241_01" 335, code := Value.ref 185 } }
noncomputable def ob233 (P : Params) : Obj := { cls := Value.type "tuple", data := Data.seq #[] }
noncomputable def ob234 (P : Params) : Obj := { cls := Value.none, data := Data.fields #[] }
noncomputable def ob235 (P : Params) : Obj := { cls := Value.none, data := Data.func { name := Str.ofString "law", qualname := Str.ofString "law", params := argsA (stA 23), body := FuncBody.stmts (bodyA (stA 23)), scope := scopeA (stA 23), globals := 0, closure := [], defaults := Value.none, kwdefaults := Value.none } }
noncomputable def ob236 (P : Params) : Obj := { cls := Value.type "code", data := Data.fields #[sV "law" 430, sV "law" 431, sV "/claim/cut.py" 432, Value.int 154 0, Value.int 1 0, Value.int 0 0, Value.int 0 0, Value.int 3 0, Value.ref 187, Value.bool true, Value.int 181 0, Value.ref 188, Value.none, Value.none, Value.none, Value.ref 189, Value.int 433 0, Value.int 154 0, sV "/claim/cut.py" 434] }
noncomputable def ob237 (P : Params) : Obj := { cls := Value.type "function", data := Data.func { name := Str.ofString "law", qualname := Str.ofString "law", params := argsA (stA 23), body := FuncBody.stmts (bodyA (stA 23)), scope := scopeA (stA 23), globals := 3, closure := [], defaults := Value.none, kwdefaults := Value.none, pyModule := sV "law_nz0241_01" 335, code := Value.ref 190 } }
noncomputable def tr237 (P : Params) : BT := BT.node (boot_o_0 P) (BT.node (boot_o_1 P) (BT.node (ob221 P) (BT.node (boot_o_7 P) (BT.node (ob52 P) (BT.node (ob74 P) (BT.node (ob105 P) (BT.node (ob171 P) BT.nil BT.nil) (BT.node (ob237 P) BT.nil BT.nil)) (BT.node (ob137 P) (BT.node (ob203 P) BT.nil BT.nil) BT.nil)) (BT.node (ob89 P) (BT.node (ob121 P) (BT.node (ob187 P) BT.nil BT.nil) BT.nil) (BT.node (ob155 P) (BT.node (ob219 P) BT.nil BT.nil) BT.nil))) (BT.node (ob60 P) (BT.node (ob79 P) (BT.node (ob113 P) (BT.node (ob179 P) BT.nil BT.nil) BT.nil) (BT.node (ob147 P) (BT.node (ob211 P) BT.nil BT.nil) BT.nil)) (BT.node (ob97 P) (BT.node (ob129 P) (BT.node (ob195 P) BT.nil BT.nil) BT.nil) (BT.node (ob163 P) (BT.node (ob229 P) BT.nil BT.nil) BT.nil)))) (BT.node (ob43 P) (BT.node (ob56 P) (BT.node (ob75 P) (BT.node (ob109 P) (BT.node (ob175 P) BT.nil BT.nil) BT.nil) (BT.node (ob143 P) (BT.node (ob207 P) BT.nil BT.nil) BT.nil)) (BT.node (ob93 P) (BT.node (ob125 P) (BT.node (ob191 P) BT.nil BT.nil) BT.nil) (BT.node (ob159 P) (BT.node (ob225 P) BT.nil BT.nil) BT.nil))) (BT.node (ob64 P) (BT.node (ob83 P) (BT.node (ob117 P) (BT.node (ob183 P) BT.nil BT.nil) BT.nil) (BT.node (ob151 P) (BT.node (ob215 P) BT.nil BT.nil) BT.nil)) (BT.node (ob101 P) (BT.node (ob133 P) (BT.node (ob199 P) BT.nil BT.nil) BT.nil) (BT.node (ob167 P) (BT.node (ob233 P) BT.nil BT.nil) BT.nil))))) (BT.node (boot_o_5 P) (BT.node (boot_o_9 P) (BT.node (ob54 P) (BT.node (ob70 P) (BT.node (ob107 P) (BT.node (ob173 P) BT.nil BT.nil) BT.nil) (BT.node (ob139 P) (BT.node (ob205 P) BT.nil BT.nil) BT.nil)) (BT.node (ob91 P) (BT.node (ob123 P) (BT.node (ob189 P) BT.nil BT.nil) BT.nil) (BT.node (ob157 P) (BT.node (ob223 P) BT.nil BT.nil) BT.nil))) (BT.node (ob62 P) (BT.node (ob81 P) (BT.node (ob115 P) (BT.node (ob181 P) BT.nil BT.nil) BT.nil) (BT.node (ob149 P) (BT.node (ob213 P) BT.nil BT.nil) BT.nil)) (BT.node (ob99 P) (BT.node (ob131 P) (BT.node (ob197 P) BT.nil BT.nil) BT.nil) (BT.node (ob165 P) (BT.node (ob231 P) BT.nil BT.nil) BT.nil)))) (BT.node (ob45 P) (BT.node (ob58 P) (BT.node (ob77 P) (BT.node (ob111 P) (BT.node (ob177 P) BT.nil BT.nil) BT.nil) (BT.node (ob145 P) (BT.node (ob209 P) BT.nil BT.nil) BT.nil)) (BT.node (ob95 P) (BT.node (ob127 P) (BT.node (ob193 P) BT.nil BT.nil) BT.nil) (BT.node (ob161 P) (BT.node (ob227 P) BT.nil BT.nil) BT.nil))) (BT.node (ob66 P) (BT.node (ob85 P) (BT.node (ob119 P) (BT.node (ob185 P) BT.nil BT.nil) BT.nil) (BT.node (ob153 P) (BT.node (ob217 P) BT.nil BT.nil) BT.nil)) (BT.node (ob103 P) (BT.node (ob135 P) (BT.node (ob201 P) BT.nil BT.nil) BT.nil) (BT.node (ob169 P) (BT.node (ob235 P) BT.nil BT.nil) BT.nil)))))) (BT.node (ob49 P) (BT.node (boot_o_4 P) (BT.node (boot_o_8 P) (BT.node (ob53 P) (BT.node (ob69 P) (BT.node (ob106 P) (BT.node (ob172 P) BT.nil BT.nil) BT.nil) (BT.node (ob138 P) (BT.node (ob204 P) BT.nil BT.nil) BT.nil)) (BT.node (ob90 P) (BT.node (ob122 P) (BT.node (ob188 P) BT.nil BT.nil) BT.nil) (BT.node (ob156 P) (BT.node (ob220 P) BT.nil BT.nil) BT.nil))) (BT.node (ob61 P) (BT.node (ob80 P) (BT.node (ob114 P) (BT.node (ob180 P) BT.nil BT.nil) BT.nil) (BT.node (ob148 P) (BT.node (ob212 P) BT.nil BT.nil) BT.nil)) (BT.node (ob98 P) (BT.node (ob130 P) (BT.node (ob196 P) BT.nil BT.nil) BT.nil) (BT.node (ob164 P) (BT.node (ob230 P) BT.nil BT.nil) BT.nil)))) (BT.node (ob222 P) (BT.node (ob57 P) (BT.node (ob76 P) (BT.node (ob110 P) (BT.node (ob176 P) BT.nil BT.nil) BT.nil) (BT.node (ob144 P) (BT.node (ob208 P) BT.nil BT.nil) BT.nil)) (BT.node (ob94 P) (BT.node (ob126 P) (BT.node (ob192 P) BT.nil BT.nil) BT.nil) (BT.node (ob160 P) (BT.node (ob226 P) BT.nil BT.nil) BT.nil))) (BT.node (ob65 P) (BT.node (ob84 P) (BT.node (ob118 P) (BT.node (ob184 P) BT.nil BT.nil) BT.nil) (BT.node (ob152 P) (BT.node (ob216 P) BT.nil BT.nil) BT.nil)) (BT.node (ob102 P) (BT.node (ob134 P) (BT.node (ob200 P) BT.nil BT.nil) BT.nil) (BT.node (ob168 P) (BT.node (ob234 P) BT.nil BT.nil) BT.nil))))) (BT.node (boot_o_6 P) (BT.node (boot_o_10 P) (BT.node (ob55 P) (BT.node (ob71 P) (BT.node (ob108 P) (BT.node (ob174 P) BT.nil BT.nil) BT.nil) (BT.node (ob140 P) (BT.node (ob206 P) BT.nil BT.nil) BT.nil)) (BT.node (ob92 P) (BT.node (ob124 P) (BT.node (ob190 P) BT.nil BT.nil) BT.nil) (BT.node (ob158 P) (BT.node (ob224 P) BT.nil BT.nil) BT.nil))) (BT.node (ob63 P) (BT.node (ob82 P) (BT.node (ob116 P) (BT.node (ob182 P) BT.nil BT.nil) BT.nil) (BT.node (ob150 P) (BT.node (ob214 P) BT.nil BT.nil) BT.nil)) (BT.node (ob100 P) (BT.node (ob132 P) (BT.node (ob198 P) BT.nil BT.nil) BT.nil) (BT.node (ob166 P) (BT.node (ob232 P) BT.nil BT.nil) BT.nil)))) (BT.node (ob46 P) (BT.node (ob59 P) (BT.node (ob78 P) (BT.node (ob112 P) (BT.node (ob178 P) BT.nil BT.nil) BT.nil) (BT.node (ob146 P) (BT.node (ob210 P) BT.nil BT.nil) BT.nil)) (BT.node (ob96 P) (BT.node (ob128 P) (BT.node (ob194 P) BT.nil BT.nil) BT.nil) (BT.node (ob162 P) (BT.node (ob228 P) BT.nil BT.nil) BT.nil))) (BT.node (ob67 P) (BT.node (ob86 P) (BT.node (ob120 P) (BT.node (ob186 P) BT.nil BT.nil) BT.nil) (BT.node (ob154 P) (BT.node (ob218 P) BT.nil BT.nil) BT.nil)) (BT.node (ob104 P) (BT.node (ob136 P) (BT.node (ob202 P) BT.nil BT.nil) BT.nil) (BT.node (ob170 P) (BT.node (ob236 P) BT.nil BT.nil) BT.nil))))))
noncomputable def hp238 (P : Params) : Heap := { objs := { toList := [boot_o_0 P, boot_o_1 P, ob49 P, ob221 P, boot_o_4 P, boot_o_5 P, boot_o_6 P, boot_o_7 P, boot_o_8 P, boot_o_9 P, boot_o_10 P, ob43 P, ob222 P, ob45 P, ob46 P, ob52 P, ob53 P, ob54 P, ob55 P, ob56 P, ob57 P, ob58 P, ob59 P, ob60 P, ob61 P, ob62 P, ob63 P, ob64 P, ob65 P, ob66 P, ob67 P, ob74 P, ob69 P, ob70 P, ob71 P, ob75 P, ob76 P, ob77 P, ob78 P, ob79 P, ob80 P, ob81 P, ob82 P, ob83 P, ob84 P, ob85 P, ob86 P, ob89 P, ob90 P, ob91 P, ob92 P, ob93 P, ob94 P, ob95 P, ob96 P, ob97 P, ob98 P, ob99 P, ob100 P, ob101 P, ob102 P, ob103 P, ob104 P, ob105 P, ob106 P, ob107 P, ob108 P, ob109 P, ob110 P, ob111 P, ob112 P, ob113 P, ob114 P, ob115 P, ob116 P, ob117 P, ob118 P, ob119 P, ob120 P, ob121 P, ob122 P, ob123 P, ob124 P, ob125 P, ob126 P, ob127 P, ob128 P, ob129 P, ob130 P, ob131 P, ob132 P, ob133 P, ob134 P, ob135 P, ob136 P, ob137 P, ob138 P, ob139 P, ob140 P, ob143 P, ob144 P, ob145 P, ob146 P, ob147 P, ob148 P, ob149 P, ob150 P, ob151 P, ob152 P, ob153 P, ob154 P, ob155 P, ob156 P, ob157 P, ob158 P, ob159 P, ob160 P, ob161 P, ob162 P, ob163 P, ob164 P, ob165 P, ob166 P, ob167 P, ob168 P, ob169 P, ob170 P, ob171 P, ob172 P, ob173 P, ob174 P, ob175 P, ob176 P, ob177 P, ob178 P, ob179 P, ob180 P, ob181 P, ob182 P, ob183 P, ob184 P, ob185 P, ob186 P, ob187 P, ob188 P, ob189 P, ob190 P, ob191 P, ob192 P, ob193 P, ob194 P, ob195 P, ob196 P, ob197 P, ob198 P, ob199 P, ob200 P, ob201 P, ob202 P, ob203 P, ob204 P, ob205 P, ob206 P, ob207 P, ob208 P, ob209 P, ob210 P, ob211 P, ob212 P, ob213 P, ob214 P, ob215 P, ob216 P, ob217 P, ob218 P, ob219 P, ob220 P, ob223 P, ob224 P, ob225 P, ob226 P, ob227 P, ob228 P, ob229 P, ob230 P, ob231 P, ob232 P, ob233 P, ob234 P, ob235 P, ob236 P, ob237 P] } }
theorem pcPre : ∀ w : World, (fun os => topGo treeTable pA w 11 (some (Value.ref 6)) 12 ⟨boot_heap w.params, ⟨[]⟩, boot_drawn, boot_toks, os⟩ (topStub pA)) = fun os => some (⟨hp46 w.params, ⟨[]⟩, {}, 187, os⟩, ⟨denote treeTable cA, cA, ⟨0, 0, 0, 0⟩, [topFrame ⟨0, 0, 0, 0⟩]⟩) := fun w => by kernel_rfl
theorem pcBlock : ∀ w : World, (fun os => segRun treeTable pA w 11 (some (Value.ref 6)) 1 1 ⟨hp46 w.params, ⟨[]⟩, {}, 187, os⟩ (blockOf bA enA cA ⟨0, 0, 0, 0⟩ [topFrame ⟨0, 0, 0, 0⟩])) = fun os => some (Flow.next, SharedT.abs ⟨tr47 w.params, 15, {}, ⟨[]⟩, {}, 187, os⟩, cA, ⟨0, 0, 0, 0⟩) := fun w => by kernel_rfl
/-- a stretch is shown over the library's faster twins of the runner and its table -/
theorem ofFast {p : Program} {w : World} {n₀ : Nat} {ann : Option Value} {b n : Nat} {s : SharedT} {t : Thread} {r : Option (Flow × SharedT × Code × Pos)} (h : Fast.tw10110043849684766642 Fast.tw14364793385576792824 p w n₀ ann b n s t = r) : segRunT treeTable p w n₀ ann b n s t = r := by
  rw [Fast.te10110043849684766642, Fast.te14364793385576792824]; exact h
theorem pc1 : ∀ w : World, (fun os => Fast.tw10110043849684766642 Fast.tw14364793385576792824 pA w 11 (some (Value.ref 6)) 1 238 ⟨tr47 w.params, 15, {}, ⟨[]⟩, {}, 187, os⟩ (piecesOf (stsA 0 2) enA cA ⟨0, 0, 0, 0⟩ [topFrame ⟨0, 0, 0, 0⟩])) = fun os => some (Flow.next, ⟨tr71 w.params, 35, {}, ⟨[]⟩, {}, 218, os⟩, cA, ⟨2, 0, 6, 30⟩) := fun w => by kernel_rfl
theorem pc2 : ∀ w : World, (fun os => Fast.tw10110043849684766642 Fast.tw14364793385576792824 pA w 11 (some (Value.ref 6)) 1 223 ⟨tr71 w.params, 35, {}, ⟨[]⟩, {}, 218, os⟩ (piecesOf (stsA 2 2) enA cA ⟨2, 0, 6, 30⟩ [topFrame ⟨0, 0, 0, 0⟩])) = fun os => some (Flow.next, ⟨tr86 w.params, 47, {}, ⟨[]⟩, {}, 236, os⟩, cA, ⟨9, 0, 9, 8⟩) := fun w => by kernel_rfl
theorem pc3 : ∀ w : World, (fun os => Fast.tw10110043849684766642 Fast.tw14364793385576792824 pA w 11 (some (Value.ref 6)) 1 376 ⟨tr86 w.params, 47, {}, ⟨[]⟩, {}, 236, os⟩ (piecesOf (stsA 4 4) enA cA ⟨9, 0, 9, 8⟩ [topFrame ⟨0, 0, 0, 0⟩])) = fun os => some (Flow.next, ⟨tr140 w.params, 99, {}, ⟨[]⟩, {}, 308, os⟩, cA, ⟨31, 0, 35, 37⟩) := fun w => by kernel_rfl
theorem pc4 : ∀ w : World, (fun os => Fast.tw10110043849684766642 Fast.tw14364793385576792824 pA w 11 (some (Value.ref 6)) 1 376 ⟨tr140 w.params, 99, {}, ⟨[]⟩, {}, 308, os⟩ (piecesOf (stsA 8 13) enA cA ⟨31, 0, 35, 37⟩ [topFrame ⟨0, 0, 0, 0⟩])) = fun os => some (Flow.next, ⟨tr220 w.params, 177, {}, ⟨[]⟩, {}, 418, os⟩, cA, ⟨116, 0, 119, 31⟩) := fun w => by kernel_rfl
theorem pc5 : ∀ w : World, (fun os => Fast.tw10110043849684766642 Fast.tw14364793385576792824 pA w 11 (some (Value.ref 6)) 1 79 ⟨tr220 w.params, 177, {}, ⟨[]⟩, {}, 418, os⟩ (piecesOf (stsA 21 3) enA cA ⟨116, 0, 119, 31⟩ [topFrame ⟨0, 0, 0, 0⟩])) = fun os => some (Flow.next, ⟨tr237 w.params, 192, {}, ⟨[]⟩, {}, 436, os⟩, cA, ⟨154, 0, 168, 31⟩) := fun w => by kernel_rfl
theorem pcEnd : ∀ w : World, (fun os => topRun treeTable pA w 11 (some (Value.ref 6)) 2 (SharedT.abs ⟨tr237 w.params, 192, {}, ⟨[]⟩, {}, 436, os⟩) ⟨doneF Flow.next, cA, ⟨154, 0, 168, 31⟩, [topFrame ⟨0, 0, 0, 0⟩]⟩) = fun os => some ⟨hp238 w.params, ⟨[]⟩, {}, 436, os⟩ := fun w => by kernel_rfl
theorem stsAll : bA = stsA 0 2 ++ (stsA 2 2 ++ (stsA 4 4 ++ (stsA 8 13 ++ (stsA 21 3 ++ [])))) := by kernel_rfl
theorem topAll (w : World) (os : OsState) : topRun treeTable pA w 11 (some (Value.ref 6)) (12 + (1 + (238 + (223 + (376 + (376 + (79 + 2))))))) ⟨boot_heap w.params, ⟨[]⟩, boot_drawn, boot_toks, os⟩ (topStub pA) = some ⟨hp238 w.params, ⟨[]⟩, {}, 436, os⟩ := by
  refine go_top (congrFun (pcPre w) os) (piece_block (congrFun (pcBlock w) os) ?_)
  refine (congrArg (fun b => topRun treeTable pA w 11 (some (Value.ref 6)) (238 + (223 + (376 + (376 + (79 + 2))))) (SharedT.abs ⟨tr47 w.params, 15, {}, ⟨[]⟩, {}, 187, os⟩) (restOf b enA cA ⟨0, 0, 0, 0⟩ [topFrame ⟨0, 0, 0, 0⟩])) stsAll).trans ?_
  exact piece_app (segRun_of (ofFast (congrFun (pc1 w) os))) (piece_app (segRun_of (ofFast (congrFun (pc2 w) os))) (piece_app (segRun_of (ofFast (congrFun (pc3 w) os))) (piece_app (segRun_of (ofFast (congrFun (pc4 w) os))) (piece_app (segRun_of (ofFast (congrFun (pc5 w) os))) (congrFun (pcEnd w) os)))))
theorem sizeAll : ∀ w : World, ((boot_heap w.params).isNs mainGlobals && (⟨[]⟩ : Array GenState).size == 0, (boot_heap w.params).objs.size, (boot_heap w.params).nsMap mainGlobals (Str.ofString "__annotations__")) = (true, 11, some (Value.ref 6)) := fun w => by kernel_rfl
theorem openAll : opening pA = plainProg pA.main.scope.names := by kernel_rfl
theorem fenceAll (s : Shared) : fenceModules? pA s = some s := by kernel_rfl
/-- what is looked at behind the top, where the top's state is said -/
abbrev LeftB (q : Program) (loose : List Str) (Xt : Shared → Bool) {α : Type} (Yf : Shared → α) (Ya : World → α) (N : Nat) : Prop :=
  ∀ w : World, (Nat.ble 1307 N, fun os => ((staticsOk (importedModules pA.main.body) (boot_heap w.params) (hp238 w.params) && namesBound pA (hp238 w.params) && gensDone ⟨hp238 w.params, ⟨[]⟩, {}, 436, os⟩ && laidKept (boot_heap w.params) (hp238 w.params)),
    openSeen q loose (importedModules pA.main.body) Xt true ⟨hp238 w.params, ⟨[]⟩, {}, 436, os⟩, Yf ⟨hp238 w.params, ⟨[]⟩, {}, 436, os⟩)) = (true, fun _ => (true, openGood q loose, Ya w))
theorem leftB {q : Program} {loose : List Str} {Xt : Shared → Bool} {α : Type} {Yf : Shared → α} {Ya : World → α} {N : Nat} (h : LeftB q loose Xt Yf Ya N) : LeftO pA q loose Xt Yf Ya N := fun w =>
  have hN : Nat.ble 1307 N = true := congrArg Prod.fst (h w)
  LeftO.of_pieces (boot_open openAll (Nat.ble_eq_true_of_le (Nat.le_trans (by decide) (Nat.le_of_ble_eq_true hN))) fenceAll) sizeAll topAll hN (fun w => congrArg Prod.snd (h w)) w
end Mine
/-- the head's lemma for this row, where the top's state is said: the head's tactic, run in namespace Mine, finds it by this name -/
theorem Mine.PySem.W.holds_open {q : Program} {loose : List Str} {Xt : Shared → Bool} {XP : (Str → Option Value) → Heap → Prop} {α : Type} {Yf : Shared → α} {Ya : World → α} {YP : World → Heap → Prop} {d : DefRec} {kwd : List (Str × Expr)} {N : Nat}
    (left : LeftB q loose Xt Yf Ya N) (hY : ∀ w s, Yf s = Ya w → YP w s.heap) (hYk : ∀ w h h', YP w h → (∀ b o, h.get? b = some o → h'.get? b = some o) → YP w h')
    (hX : ∀ s, Xt s = true → XP (s.heap.nsMap mainGlobals) s.heap) (hXk : ∀ mg h h', XP mg h → (∀ b o, h.get? b = some o → h'.get? b = some o) → XP mg h')
    (hdef : defOf q PySem.Challenge.rw_nz0241_01.row.name = some (d, kwd)) (hp : PySem.Challenge.rw_nz0241_01.row.prog.theDef PySem.Challenge.rw_nz0241_01.row.name = some (d.params, d.body, d.scope)) (hk : kwWritten? d.params.kwonlyargs d.params.kw_defaults = some kwd) (hRf : ∀ s, Xt s = true → RecFacts PySem.Challenge.rw_nz0241_01.row.records s.heap) (hwr : (!PySem.Challenge.rw_nz0241_01.row.writes || PySem.Challenge.rw_nz0241_01.row.records.isEmpty) = true)
    (k1 : PySem.Challenge.rw_nz0241_01.row.wellSaid = true) (ok : (chainsOk q && opensWell PySem.Challenge.rw_nz0241_01.row.prog && (frees PySem.Challenge.rw_nz0241_01.row.toRowW && PySem.Challenge.rw_nz0241_01.row.within.isEmpty)) = true) (hb : PySem.Challenge.rw_nz0241_01.row.prog.bare) (hw : PySem.Challenge.rw_nz0241_01.row.toRowW.promised)
    (call : WalkO q loose XP YP PySem.Challenge.rw_nz0241_01.row.toRowW d kwd fun f vs => PySem.call f vs) : PySem.Challenge.rw_nz0241_01.row.Holds :=
  _root_.PySem.W.holds_open (leftB left) hY hYk hX hXk hdef hp hk hRf hwr k1 ok hb hw call
namespace Mine
open_top hd for PySem.Challenge.rw_nz0241_01
local macro_rules | `(tactic| walk_at $s:str) => do `(tactic| k_extra $(Lean.Syntax.mkStrLit ("z" ++ s.getString)))
theorem warm0 : PySem.Challenge.rw_nz0241_01 = PySem.Challenge.rw_nz0241_01 ∧ Mine.hd.heap_39 = Mine.hd.heap_39 := by
  w_top off
  k_fill
  exact ⟨rfl, rfl⟩

abbrev TopH (mean : ExcName → Option Value) (mg mb : Str → Option Value) (h : Heap) : Prop := Top topProg (looseW Mine.hd.view_39 [] ++ (recsOf Mine.hd.view_39).map (fun x => x.name) ++ (litsOf Mine.hd.view_39).map (fun x => x.1) ++ (clssOf Mine.hd.view_39 (looseW Mine.hd.view_39 [])).map (fun x => x.name)) mean mg mb h

abbrev nzA (dp un : Nat) (gd : Option (List Code)) (env : Env) (outer : List Env) : Around := { handled := none, depth := dp, frames := some (env :: outer), guards := gd, units := un }

def clampI (p n : Int) : Int := if p < 0 then 0 else if p < n then p else n - 1

def rowD (r : List Int) : Dat := .list (r.map .int)
def matD (M : List (List Int)) : Dat := .list (M.map rowD)

/-- a plane at x -/
def PlIn (news : List (Addr × Obj)) (x : Addr) (W H : Int) (r : Addr) : Prop :=
  ∃ (dx : Addr) (h1 h2 h3 : Int) (t1 t2 t3 tw th : Tok) (n : Nat), (x, instObj 77 dx) ∈ news ∧
    (dx, dictOf [⟨h1, .str (Str.ofString "width") t1, .int W tw⟩, ⟨h2, .str (Str.ofString "height") t2, .int H th⟩, ⟨h3, .str (Str.ofString "rows") t3, .ref r⟩] n) ∈ news

/-- the walk stops here -/
def Hold (P : Prop) : Prop := P
theorem Hold.go {P : Prop} (h : Hold P) : P := h
theorem Hold.out {P : Prop} (h : P) : Hold P := h

theorem memL_right {p : Addr × Obj} {a b : List (Addr × Obj)} (h : p ∈ b) : List.Mem p (a ++ b) := List.mem_append_right _ h
theorem memL_left {p : Addr × Obj} {a b : List (Addr × Obj)} (h : p ∈ a) : List.Mem p (a ++ b) := List.mem_append_left _ h
theorem newsEq {h₀ h : Heap} {L : Addr} {l l' : List (Addr × Obj)} (N : News h₀ L h l) (e : l' = l) : News h₀ L h l' := e ▸ N
theorem newsSub {h₀ h : Heap} {L : Addr} {l l' : List (Addr × Obj)} (N : News h₀ L h l) (e : ∀ p ∈ l', p ∈ l) : News h₀ L h l' := fun p hp => N p (e p hp)
theorem newsDrop {h₀ h : Heap} {L : Addr} {a : Addr × Obj} {t l : List (Addr × Obj)} (N : News h₀ L h (a :: (t ++ l))) : News h₀ L h (a :: l) := fun p hp => N p (by
  rcases List.mem_cons.mp hp with rfl | hp
  · exact .head _
  · exact .tail _ (List.mem_append_right _ hp))
theorem newsRest {h₀ h : Heap} {L : Addr} {a : Addr × Obj} {t l : List (Addr × Obj)} (N : News h₀ L h (a :: (t ++ l))) : News h₀ L h l := fun p hp => N p (.tail _ (List.mem_append_right _ hp))
theorem newsHead {h₀ h : Heap} {L : Addr} {a : Addr × Obj} {r l : List (Addr × Obj)} (N : News h₀ L h (a :: r)) (s : ∀ q ∈ l, q ∈ r) : News h₀ L h (a :: l) := fun p hp => N p (by
  rcases List.mem_cons.mp hp with rfl | hp
  · exact .head _
  · exact .tail _ (s p hp))
/-- what stands in n stands in n', but for d -/
structure Kept (n : List (Addr × Obj)) (d : Addr) (n' : List (Addr × Obj)) : Prop where
  all : ∀ p ∈ n, p.1 ≠ d → p ∈ n'
theorem Kept.mem {n n' : List (Addr × Obj)} {d : Addr} {p : Addr × Obj} (K : Kept n d n') (hm : p ∈ n) (hn : p.1 ≠ d) : p ∈ n' := K.all p hm hn
theorem kept_upd {d : Addr} {o o' : Obj} {l : List (Addr × Obj)} {g : Obj → List (Addr × Obj)} (mem : ∀ {p : Addr × Obj}, p ∈ l → p.1 ≠ d → p ∈ g o') : Kept l d (g o') := ⟨fun _ h n => mem h n⟩

/-- a source: what is left of the script's number, and the seed -/
def SrcOk (o : Obj) : Prop := ∃ (a b : Int) (ta tb : Tok) (n : Nat), o = listOf [Value.int a ta, Value.int b tb].toArray n ∧ 0 ≤ a ∧ 0 ≤ b ∧ b < 2147483647

theorem updF_again {d : Addr} {o o' : Obj} {l : List (Addr × Obj)} {g : Obj → List (Addr × Obj)} (U : UpdF d o l g) : UpdF d o' (g o') g := by
  induction U with
  | head h => exact .head h
  | tail h _ ih => exact .tail h ih
theorem updF_mem {d : Addr} {o o' : Obj} {l : List (Addr × Obj)} {g : Obj → List (Addr × Obj)} (U : UpdF d o l g) : ∀ {p : Addr × Obj}, p ∈ l → p.1 ≠ d → p ∈ g o' := by
  induction U with
  | head h =>
    intro p hp hn
    rcases List.mem_cons.mp hp with rfl | hp
    · exact absurd rfl hn
    · exact .tail _ hp
  | tail h _ ih =>
    intro p hp hn
    rcases List.mem_cons.mp hp with rfl | hp
    · exact .head _
    · exact .tail _ (ih hp hn)
theorem updF_back {d : Addr} {o o' : Obj} {l : List (Addr × Obj)} {g : Obj → List (Addr × Obj)} (U : UpdF d o l g) : ∀ {p : Addr × Obj}, p ∈ g o' → p = (d, o') ∨ p ∈ l := by
  induction U with
  | head h =>
    intro p hp
    rcases List.mem_cons.mp hp with rfl | hp
    · exact .inl rfl
    · exact .inr (.tail _ hp)
  | tail h _ ih =>
    intro p hp
    rcases List.mem_cons.mp hp with rfl | hp
    · exact .inr (.head _)
    · exact (ih hp).imp id (.tail _)
theorem updF_at {d : Addr} {o : Obj} {l : List (Addr × Obj)} {g : Obj → List (Addr × Obj)} (U : UpdF d o l g) : (d, o) ∈ l := by
  induction U with
  | head h => exact .head _
  | tail h _ ih => exact .tail _ ih
theorem updF_self {d : Addr} {o : Obj} {l : List (Addr × Obj)} {g : Obj → List (Addr × Obj)} (U : UpdF d o l g) : g o = l := by
  induction U with
  | head h => rfl
  | tail h _ ih => exact congrArg _ ih
theorem updF_app {d : Addr} {o : Obj} {l : List (Addr × Obj)} {g : Obj → List (Addr × Obj)} (U : UpdF d o l g) : ∀ {tl : List (Addr × Obj)}, (∀ p ∈ tl, p.1 ≠ d) → UpdF d o (tl ++ l) (fun o' => tl ++ g o')
  | [], _ => U
  | _ :: _, h => .tail (h _ (.head _)) (updF_app U fun p hp => h p (.tail _ hp))
theorem allLt_all {d : Addr} : ∀ {l : List (Addr × Obj)}, AllLt d l → ∀ p ∈ l, p.1 < d
  | [], _, _, h => nomatch h
  | _ :: _, ⟨a, b⟩, p, h => by
    rcases List.mem_cons.mp h with rfl | h
    · exact a
    · exact allLt_all b p h
theorem allLt_app {d : Addr} {a b : List (Addr × Obj)} : AllLt d (a ++ b) ↔ AllLt d a ∧ AllLt d b := by
  induction a with
  | nil => exact ⟨fun h => ⟨trivial, h⟩, fun h => h.2⟩
  | cons p r ih => exact ⟨fun h => ⟨⟨h.1, (ih.mp h.2).1⟩, (ih.mp h.2).2⟩, fun h => ⟨h.1.1, ih.mpr ⟨h.1.2, h.2⟩⟩⟩
theorem updF_lt {d x : Addr} {o : Obj} {l : List (Addr × Obj)} {g : Obj → List (Addr × Obj)} (U : UpdF d o l g) (h : AllLt x l) : d < x := allLt_all h _ (updF_at U)
theorem allLt_upd {d x : Addr} {o o' : Obj} {l : List (Addr × Obj)} {g : Obj → List (Addr × Obj)} (U : UpdF d o l g) (h : AllLt x l) : AllLt x (g o') :=
  allLt_of fun p hp => by
    rcases updF_back U hp with rfl | hp
    · exact updF_lt U h
    · exact allLt_all h p hp

/-- no address of a is one of b -/
def Apart (a b : List (Addr × Obj)) : Prop := ∀ p ∈ a, ∀ q ∈ b, @Ne Nat p.1 q.1
theorem Apart.nil {b : List (Addr × Obj)} : Apart [] b := fun _ h => nomatch h
theorem Apart.cons {p : Addr × Obj} {a b : List (Addr × Obj)} (h : ∀ q ∈ b, @Ne Nat p.1 q.1) (k : Apart a b) : Apart (p :: a) b := fun x hx => by
  rcases List.mem_cons.mp hx with rfl | hx
  · exact h
  · exact k x hx
theorem Apart.app {a a' b : List (Addr × Obj)} (h : Apart a b) (k : Apart a' b) : Apart (a ++ a') b := fun x hx => (List.mem_append.mp hx).elim (h x) (k x)
theorem datAll_int {nw : List (Addr × Obj)} {ys : List Value} {row : List Int} (h : DatAll nw ys (row.map .int)) (v : Int) (t : Tok) : DatAll nw (ys ++ [.int v t]) ((row ++ [v]).map .int) := by
  rw [List.map_append]; exact DatAll.append h (.cons (.int _ _) .nil)
theorem datAll_row {nw : List (Addr × Obj)} {ys : List Value} {M : List (List Int)} (h : DatAll nw ys (M.map rowD)) {v : Value} {row : List Int} (k : DatIn nw v (rowD row)) : DatAll nw (ys ++ [v]) ((M ++ [row]).map rowD) := by
  rw [List.map_append]; exact DatAll.append h (.cons k .nil)
theorem datAll_up {nw nw' : List (Addr × Obj)} {ys : List Value} {ds : List Dat} (h : DatAll nw ys ds) (s : ∀ p ∈ nw, p ∈ nw') : DatAll nw' ys ds := DatAll.mono s h
theorem apart_upd {src : Addr} {o o' : Obj} {l a : List (Addr × Obj)} {g : Obj → List (Addr × Obj)} (U : UpdF src o l g) (h : Apart a (g o')) : Apart a l := fun p hp q hq => by
  by_cases e : q.1 = src
  · have := h p hp _ (updF_at (updF_again (o' := o') U))
    rw [e]; exact this
  · exact h p hp q (updF_mem U hq e)
theorem apart_to {src : Addr} {o o' : Obj} {l a : List (Addr × Obj)} {g : Obj → List (Addr × Obj)} (U : UpdF src o l g) (h : Apart a l) : Apart a (g o') := fun p hp q hq => by
  rcases updF_back U hq with rfl | hq
  · exact (h p hp (src, o) (updF_at U) : _)
  · exact h p hp q hq

theorem skipLt {P : Prop} {x y : Addr} {l : List (Addr × Obj)} (_ : AllLt y l) (h : P) : AllLt x l → P := fun _ => h
theorem off_of {x d : Nat} {l : List (Addr × Obj)} (h : AllLt x l) (hx : x ≤ d) : ∀ p ∈ l, p.1 ≠ d := fun p hp => Nat.ne_of_lt (Nat.lt_of_lt_of_le (allLt_all h p hp) hx)
theorem upd_norm {h₀ h : Heap} {L src : Addr} {o : Obj} {news : List (Addr × Obj)} {g : Obj → List (Addr × Obj)} (N : News h₀ L h news) (U : UpdF src o news g) :
    ∃ rest, (∀ p ∈ rest, p.1 ≠ src) ∧ News h₀ L h ((src, o) :: rest) ∧ (∀ p ∈ rest, p ∈ news) ∧ (∀ p ∈ news, p.1 ≠ src → p ∈ rest) ∧ ∀ o', UpdF src o' (g o') g ∧ Kept news src (g o') ∧ ∀ p ∈ g o', p ∈ (src, o') :: rest := by
  have A := fun o' => updF_again (o' := o') U
  have K := fun o' => (⟨fun _ h n => updF_mem U h n⟩ : Kept news src (g o'))
  obtain ⟨pre, post, rfl, hg, h1, h2⟩ := U.split
  refine ⟨pre ++ post, fun p hp => (List.mem_append.mp hp).elim (h1 p) (h2 p), fun p hp => N p ?_, fun p hp => ?_, fun p hp hn => ?_, fun o' => ⟨A o', K o', fun p hp => ?_⟩⟩
  · rcases List.mem_cons.mp hp with rfl | hp
    · exact List.mem_append_right _ (.head _)
    · exact (List.mem_append.mp hp).elim (List.mem_append_left _) fun h => List.mem_append_right _ (.tail _ h)
  · exact (List.mem_append.mp hp).elim (List.mem_append_left _) fun h => List.mem_append_right _ (.tail _ h)
  · rcases List.mem_append.mp hp with hp | hp
    · exact List.mem_append_left _ hp
    · rcases List.mem_cons.mp hp with rfl | hp
      · exact absurd rfl hn
      · exact List.mem_append_right _ hp
  · rw [hg] at hp
    rcases List.mem_append.mp hp with hp | hp
    · exact .tail _ (List.mem_append_left _ hp)
    · rcases List.mem_cons.mp hp with rfl | hp
      · exact .head _
      · exact .tail _ (List.mem_append_right _ hp)

theorem ints3 {a b c : Tok} {i : Nat} {v : Value} (h : [Value.int 256 a, Value.int 256 b, Value.int 3 c][i]? = some v) : ∃ k t, v = .int k t ∧ 0 < k ∧ k < 1000 := by
  match i with
  | 0 => cases h; exact ⟨_, _, rfl, by decide, by decide⟩
  | 1 => cases h; exact ⟨_, _, rfl, by decide, by decide⟩
  | 2 => cases h; exact ⟨_, _, rfl, by decide, by decide⟩
  | n + 3 => simp at h

section
variable {prog : Program} {w : World} {A : Around} {E : Value → Shared → Prop} {s : Shared} {h₀ : Heap} {L l : Addr} {news : List (Addr × Obj)}
theorem nz_len {us : List Value} {n : Nat} {Q : Value → Shared → Prop} (N : News h₀ L s.heap news) (hm : (l, listOf us.toArray n) ∈ news) (hfit : us.length < 1000000)
    (h : Q (.int (us.length : Int) (s.toks + 1)) { s with toks := s.toks + 1 + 1 }) : wpAny (model prog w) A (call (.builtin "len") [.ref l]) Q E s := by
  have hl : s.heap.IsList l us.toArray := ⟨_, (N _ hm).1, rfl, n, rfl⟩
  have e : us.toArray.size = us.length := List.size_toArray ..
  exact len_list hl (by rw [e]; omega) (by rw [e]; exact h)
theorem nz_getItem {us : List Value} {n : Nat} {k : Int} {u : Tok} {Q : Value → Shared → Prop} (N : News h₀ L s.heap news) (hm : (l, listOf us.toArray n) ∈ news)
    (h0 : 0 ≤ k) (h1 : k < (us.length : Int)) (hfit : us.length < 1000000) (h : ∀ v, us[k.toNat]? = some v → Q v s) : wpAny (model prog w) A (getItem (.ref l) (.int k u)) Q E s := by
  have hk : k.toNat < us.length := by omega
  have hl : s.heap.IsList l us.toArray := ⟨_, (N _ hm).1, rfl, n, rfl⟩
  exact wpAny_getItem_list hl h0 (by omega) (by simpa using List.getElem?_eq_getElem hk) (h _ (List.getElem?_eq_getElem hk))
theorem nz_item {value slice : PySem.Expr} {us : List Value} {n : Nat} {k : Int} {u : Tok} {Q : Value → Shared → Prop} (N : News h₀ L s.heap news) (hm : (l, listOf us.toArray n) ∈ news)
    (h0 : 0 ≤ k) (h1 : k < (us.length : Int)) (hfit : us.length < 1000000) (h : ∀ v, us[k.toNat]? = some v → Q v s)
    (hs : subscripted slice false (.ref l) (.int k u) = operate [.ref l, .int k u] (getItem (.ref l) (.int k u)) := by with_unfolding_all rfl) :
    wpAny (model prog w) A (subscriptTail value slice (.ref l) (.int k u)) Q E s := by
  have hl : s.heap.IsList l us.toArray := ⟨_, (N _ hm).1, rfl, n, rfl⟩
  exact tail_any hl.typeIs slot_list_getitem.lookup (nz_getItem N hm h0 h1 hfit h) hs
end

theorem ite01 (b : Bool) : (0:Int) ≤ if b = true then 1 else 0 := by cases b <;> decide
theorem PlIn.mono {n n' : List (Addr × Obj)} {x r : Addr} {W H : Int} (h : PlIn n x W H r) (s : ∀ p ∈ n, p ∈ n') : PlIn n' x W H r :=
  let ⟨d, a, b, c, t1, t2, t3, t4, t5, k, h1, h2⟩ := h; ⟨d, a, b, c, t1, t2, t3, t4, t5, k, s _ h1, s _ h2⟩
theorem fdiv_nn {a b : Int} (ha : 0 ≤ a) (hb : 0 < b) : 0 ≤ a.fdiv b := by
  rw [Int.fdiv_eq_ediv_of_nonneg _ (Int.le_of_lt hb)]
  exact Int.ediv_nonneg ha (Int.le_of_lt hb)
theorem mulok_fm (x y : Int) : IntMulOk (x.fmod 2147483647) y := IntMulOk.of_left (intBits_le_64 (by have := Int.fmod_nonneg_of_pos x (b := 2147483647) (by decide); omega) (by have := Int.fmod_lt_of_pos x (b := 2147483647) (by decide); omega))

theorem app_fits {ys : List Value} {i : Nat} {n W : Int} (h : ys.length = i) (hi : i < n.toNat) (e : n = W) (hW : W < 1000) : ys.toArray.size ≤ sizeLine := by
  rw [List.size_toArray, sizeLine_eq]; omega
theorem app8 {ys : List Value} {i : Nat} {n : Int} (h : ys.length = i) (hi : i < n.toNat) (hn : n < 1000) : ys.length ≤ 16777216 := by omega
theorem in_range {i : Nat} {n W : Int} (h : i < n.toNat) (e : n = W) : 0 ≤ (i : Int) ∧ (i : Int) < W := by omega
theorem room1 {u c n a : Nat} (h : u + c ≤ n) (e : Nat.ble a c = true) : u + a ≤ n := Nat.le_trans (Nat.add_le_add_left (Nat.le_of_ble_eq_true e) u) h
theorem room2 {u c n a b : Nat} (h : u + c ≤ n) (e : Nat.ble (a + b) c = true) : u + a + b ≤ n := Nat.add_assoc u a b ▸ room1 h e
theorem fit_row {l : Nat} {W : Int} (h : (l : Int) = W) (w : W < 1000) : l < 1000000 := by omega
theorem lt_len {l : Nat} {v W : Int} (h : (l : Int) = W) (k : v < W) : v < (l : Int) := h ▸ k
/-- what comes behind a statement, under one letter -/
def Behind (Q q : Flow → Shared → Prop) : Prop := ∀ f s, Q f s → q f s
def QEnd (q : Flow → Shared → Prop) (f : Flow) (s : Shared) : Prop := q f s
theorem behind_go {Q q : Flow → Shared → Prop} {f : Flow} {s : Shared} (h : Behind Q q) (k : Q f s) : QEnd q f s := h f s k
section
variable {M : Model} {A : Around} {E : Value → Shared → Prop} {s : Shared} {env : Env} {st : Stmt} {rest : List Stmt} {Q : Flow → Shared → Prop}
theorem cut_cons (h : ∀ q, Behind (fun f s' => match f with | .next => wpAny M A (execs rest env) Q E s' | f => Q f s') q → wpAny M A (exec st env) (QEnd q) E s) : wpAny M A (execs (st :: rest) env) Q E s := wpAny_execs_cons (h _ fun _ _ h => h)
theorem anyE {α : Type} {x : Sem α} {Q : α → Shared → Prop} (h : ∀ E', wpAny M A x Q E' s) : wpAny M A x Q E s := h E
end
local macro_rules | `(tactic| k_all) => `(tactic| first | with_reducible assumption | exact off_of (by with_reducible assumption) (by omega))
local macro_rules | `(tactic| k_lt $h:ident) => `(tactic| (replace $h := allLt_of $h; (try simp only [AllLt, and_true, allLt_app] at $h:ident); (repeat (have nzl := And.left $h; replace $h := And.right $h)); (try (have nzlt := ltN (updF_lt (by assumption) $h))); (try (revert $h; first | refine skipLt (by assumption) ?_ | intro $h:ident))))
local macro_rules | `(tactic| k_updF) => `(tactic| with_reducible assumption)
local macro_rules | `(tactic| k_ne) => `(tactic| first | with_reducible assumption | (refine Nat.ne_of_lt ?_; with_reducible assumption) | (refine Nat.ne_of_gt ?_; with_reducible assumption))
local macro_rules | `(tactic| k_mem) => `(tactic| first | with_reducible assumption | with_reducible exact List.mem_cons_self | ((with_reducible refine List.mem_cons_of_mem _ ?_); k_mem) | ((with_reducible refine List.mem_append_right _ ?_); k_mem) | ((with_reducible refine List.mem_append_left _ ?_); k_mem) | ((with_reducible refine Kept.mem (by with_reducible assumption) ?nzm ?nzn); (case nzm => k_mem); (case nzn => k_ne)))
theorem off_L1 : True := by
  w_top off
  k_with_none
  (k_with "znz in" => first | with_reducible assumption | with_reducible exact List.mem_cons_self | ((with_reducible refine List.mem_cons_of_mem _ ?_); walk_at "nz in") | ((with_reducible refine List.mem_append_right _ ?_); walk_at "nz in") | ((with_reducible refine List.mem_append_left _ ?_); walk_at "nz in"))
  (k_with "znz hA" => exact rfl)
  (k_with "znz room" => (first | exact room1 (by with_reducible assumption) rfl | exact room2 (by with_reducible assumption) rfl | omega | ((try simp only [depth_under_make, depth_under_kw, depth_in1, depth_deeper]); (try dsimp only [nzA]); (try simp only [recursionLimit]); omega)))
  (k_with "znz units" => (first | exact room1 (by with_reducible assumption) rfl | exact room2 (by with_reducible assumption) rfl | omega | ((try simp only [units_in1, units_deeper, Around.mark_units]); (try dsimp only [nzA]); (try simp only [cLine]); omega)))
  (k_with "znz enter" => first | (refine' code_def ?q5k1 ?q5k2 ?q5k3 ?q5k4 ?q5k5 ?q5kA ?q5kF ?q5kK ?q5k6 ?q5k7 ?q5k8 ?q5k9 ?q5kB ?_ ?q5c2 ?q5c3 ?q5c4 ?q5c5; (case q5kA => walk_at "nz hA"); (case q5kF | q5kK => first | assumption | exact rfl); (case q5k1 | q5k2 | q5k3 | q5k4 | q5k5 => k_asm); (case q5k6 | q5k7 => k_is); (case q5k8 => walk_at "nz room"); (case q5k9 => exact BindsTo.of_eq rfl); (case q5c5 => decide); (case q5kB => exact locs rfl); (case q5c2 | q5c3 | q5c4 => exact rfl); k_whole; intro gpq5 Lpq5 hpq5 FGpq5 Fpq5 Npq5 Bpq5 Xpq5 Tpq5; (try dsimp only); (try k_lift Bpq5); (try k_fold); with_reducible refine anyE fun EE => ?_) | (refine' code_defC ?q5k1 ?q5k2 ?q5k3 ?q5k4 ?q5k5 ?q5kA ?q5kF ?q5kK ?q5k6 ?q5k7 ?q5k8 ?q5k9 ?q5kB ?q5kD ?_ ?q5c2 ?q5c3 ?q5c4; (case q5kA => walk_at "nz hA"); (case q5kF | q5kK => first | assumption | exact rfl); (case q5k1 | q5k2 | q5k3 | q5k4 | q5k5 => k_asm); (case q5k6 | q5k7 => k_is); (case q5k8 => walk_at "nz room"); (case q5k9 => exact BindsTo.of_eq rfl); (case q5kB => exact rfl); (case q5kD => decide +kernel); (case q5c2 | q5c3 | q5c4 => exact rfl); k_whole; intro gpq5 Lpq5 hpq5 tkpq5 cellspq5 FGpq5 Fpq5 Npq5 Ypq5 Bpq5 Xpq5 Tpq5 l1q5; (try k_lt l1q5); k_cells Ypq5; (try simp only [List.cons_append, List.nil_append] at Npq5); (try dsimp only); (try k_lift Bpq5); (try k_fold); with_reducible refine anyE fun EE => ?_))
  (k_with "zeval ListComp" => (k_here; refine Hold.go ?_))
  (k_with "zexec Assign cons ListComp" => (k_here; refine Hold.go ?_))
  (k_with "zcall ref" => (k_here; refine Hold.go ?_))
  (k_with "zexec For" => (k_here; refine Hold.go ?_))
  (k_with "znz fit" => (first | with_reducible assumption | exact fit_row (by with_reducible assumption) (by with_reducible assumption) | exact lt_len (by with_reducible assumption) (by with_reducible assumption) | omega | ((try simp only [List.length_map, List.length_cons, List.length_nil, List.size_toArray]); omega)))
  (k_with "zcall builtin:len" => (k_here; (with_reducible show wpAny _ _ (call (Value.builtin "len") [Value.ref _]) _ _ _); k_dflt (refine' nz_len ?q11N ?q11m ?q11f ?_; (case q11N => k_asm); (case q11m => k_mem); (case q11f => walk_at "nz fit"); k_whole)))
  (k_with "zsubscriptTail" => (k_here; (with_reducible show wpAny _ _ (subscriptTail _ _ (Value.ref _) (Value.int _ _)) _ _ _); k_dflt (refine' nz_item ?q12N ?q12m ?q12a ?q12b ?q12f ?_ ?q12k; (case q12N => k_asm); (case q12m => k_mem); (case q12a | q12b | q12f => walk_at "nz fit"); (case q12k => with_unfolding_all rfl); k_whole); intro vpq12 hvpq12))
  (k_with "zexecs cons" => (k_here; first | k_gentoks | (k_made; walk_at "execs cons") | (with_reducible refine cut_cons fun qk hqk => ?_)))
  (k_with "zQEnd" => (refine' behind_go ?q14h ?_; (case q14h => with_reducible assumption); dsimp only))
  (k_with "zbinaryOp Mult int int" => (k_here; refine' mul_int ?q15k1 ?q15k2; (case q15k2 => exact mulok_fm _ _)))
  trivial
section
variable {w : World} {mean : ExcName → Option Value} {mg mb : Str → Option Value} {A₀ : Around} {dp un : Nat} {gd : Option (List Code)} {env : Env} {outer : List Env} {base h₀ : Heap} {L : Addr} {m : Str → Option Value} {s : Shared} {R : Result → Shared → Prop} {news : List (Addr × Obj)}
  (B : Below A₀ base outer h₀) (F : Fr h₀ L s.heap m) (X : (Mine.hd.heap_39 w.params).In h₀) (T : TopH mean mg mb h₀)
  (hf : env.frame = some L) (hk : env.scope.kind = .function)
include B F X T hf hk

theorem kept_t {p n : Int} {tp tn : Tok} (N : News h₀ L s.heap news) (hd : dp + 1 ≤ 400) (hu : un + 20 ≤ 1000)
    (ret : ∀ v t h' tk', v = clampI p n → (1 ≤ n → 0 ≤ v ∧ v < n) → Fr h₀ L h' m → News h₀ L h' news → R (.ok (.ret (.int v t))) { s with heap := h', toks := tk' }) :
    codeAny (model PySem.Challenge.pw_nz0241_01 w) (nzA dp un gd env outer) (.call (.ref 88) ⟨[.int p tp, .int n tn], []⟩) R s := by
  k_dflt walk_at "nz enter"
  k_steps
  all_goals refine ret _ _ _ _ ?_ (fun hn9 => ?_) (by k_asm) (by k_asm)
  all_goals (simp only [clampI, decide_eq_true_eq, decide_eq_false_iff_not] at *)
  all_goals (first | omega | (split <;> (try split) <;> omega))

theorem near_t {p n : Int} {tp tn : Tok} (hn : 1 ≤ n) (N : News h₀ L s.heap news) (hd : dp + 1 ≤ 400) (hu : un + 20 ≤ 1000)
    (ret : ∀ v t h' tk', v = clampI p n → (1 ≤ n → 0 ≤ v ∧ v < n) → Fr h₀ L h' m → News h₀ L h' news → R (.ok (.ret (.int v t))) { s with heap := h', toks := tk' }) :
    codeAny (model PySem.Challenge.pw_nz0241_01 w) (nzA dp un gd env outer) (.call (.ref 176) ⟨[.int p tp, .int n tn], []⟩) R s := by
  k_dflt walk_at "nz enter"
  k_steps
  all_goals refine ret _ _ _ _ ?_ (fun hn9 => ?_) (by k_asm) (by k_asm)
  all_goals (simp only [clampI, decide_eq_true_eq, decide_eq_false_iff_not] at *)
  all_goals (first | omega | ((repeat' split) <;> omega))


theorem take_t {src : Addr} {o : Obj} {g : Obj → List (Addr × Obj)} {top : Int} {tt : Tok} (N : News h₀ L s.heap news) (U : UpdF src o news g) (hS : SrcOk o) (hd : dp + 1 ≤ 400) (hu : un + 20 ≤ 1000)
    (ht : 0 < top) (ht2 : top < 1000)
    (ret : ∀ d td o' h' tk', 0 ≤ d → d < top → SrcOk o' → UpdF src o' (g o') g → Kept news src (g o') → Fr h₀ L h' m → News h₀ L h' (g o') → R (.ok (.ret (.int d td))) { s with heap := h', toks := tk' }) :
    codeAny (model PySem.Challenge.pw_nz0241_01 w) (nzA dp un gd env outer) (.call (.ref 131) ⟨[.ref src, .int top tt], []⟩) R s := by
  obtain ⟨a, b, ta, tb, n, rfl, ha, hb, hb2⟩ := hS
  obtain ⟨pre, post, rfl, hg, h1, h2⟩ := U.split
  have hg' : g = fun o' => pre ++ (src, o') :: post := funext hg
  subst hg'
  replace N : News h₀ L s.heap ((src, listOf [Value.int a ta, Value.int b tb].toArray n) :: (pre ++ post)) := fun p hp => N p (by
    rcases List.mem_cons.mp hp with rfl | hp
    · exact List.mem_append_right _ (.head _)
    · exact (List.mem_append.mp hp).elim (List.mem_append_left _) fun h => List.mem_append_right _ (.tail _ h))
  have hoff : ∀ p ∈ pre ++ post, p.1 ≠ src := fun p hp => (List.mem_append.mp hp).elim (h1 p) (h2 p)
  have again : ∀ o', UpdF src o' (pre ++ (src, o') :: post) (fun o' => pre ++ (src, o') :: post) := fun o' => updF_again U
  have kept : ∀ o', Kept (pre ++ (src, _) :: post) src (pre ++ (src, o') :: post) := fun o' => ⟨fun p hp hn => updF_mem U hp hn⟩
  have fin : ∀ d td o' h' tk', 0 ≤ d → d < top → SrcOk o' → Fr h₀ L h' m → News h₀ L h' ((src, o') :: (pre ++ post)) → R (.ok (.ret (.int d td))) { s with heap := h', toks := tk' } :=
    fun d td o' h' tk' q1 q2 q3 F' N' => ret d td o' h' tk' q1 q2 q3 (again o') (kept o') F' fun p hp => N' p (by
      rcases List.mem_append.mp hp with hp | hp
      · exact .tail _ (List.mem_append_left _ hp)
      · rcases List.mem_cons.mp hp with rfl | hp
        · exact .head _
        · exact .tail _ (List.mem_append_right _ hp))
  clear ret hg U again kept
  generalize pre ++ post = rest at N hoff fin
  k_dflt walk_at "nz enter"
  k_steps
  · refine fin _ _ _ _ _ ?_ ?_ ⟨_, _, _, _, _, rfl, ?_, ?_, ?_⟩ (by k_asm) (by k_asm)
    · exact Int.fmod_nonneg_of_pos _ ht
    · exact Int.fmod_lt_of_pos _ ht
    · exact fdiv_nn ha ht
    · exact hb
    · exact hb2
  · refine fin _ _ _ _ _ ?_ ?_ ⟨_, _, _, _, _, rfl, ?_, ?_, ?_⟩ (by k_asm) (by k_asm)
    · exact Int.fmod_nonneg_of_pos _ ht
    · exact Int.fmod_lt_of_pos _ ht
    · exact ha
    · exact Int.fmod_nonneg_of_pos _ (by decide)
    · exact Int.fmod_lt_of_pos _ (by decide)

end
theorem off_L2 : True := by
  w_top off
  k_with_none
  (k_with "znz in" => first | with_reducible assumption | with_reducible exact List.mem_cons_self | ((with_reducible refine List.mem_cons_of_mem _ ?_); walk_at "nz in") | ((with_reducible refine List.mem_append_right _ ?_); walk_at "nz in") | ((with_reducible refine List.mem_append_left _ ?_); walk_at "nz in"))
  (k_with "znz hA" => exact rfl)
  (k_with "znz room" => (first | exact room1 (by with_reducible assumption) rfl | exact room2 (by with_reducible assumption) rfl | omega | ((try simp only [depth_under_make, depth_under_kw, depth_in1, depth_deeper]); (try dsimp only [nzA]); (try simp only [recursionLimit]); omega)))
  (k_with "znz units" => (first | exact room1 (by with_reducible assumption) rfl | exact room2 (by with_reducible assumption) rfl | omega | ((try simp only [units_in1, units_deeper, Around.mark_units]); (try dsimp only [nzA]); (try simp only [cLine]); omega)))
  (k_with "znz enter" => first | (refine' code_def ?q5k1 ?q5k2 ?q5k3 ?q5k4 ?q5k5 ?q5kA ?q5kF ?q5kK ?q5k6 ?q5k7 ?q5k8 ?q5k9 ?q5kB ?_ ?q5c2 ?q5c3 ?q5c4 ?q5c5; (case q5kA => walk_at "nz hA"); (case q5kF | q5kK => first | assumption | exact rfl); (case q5k1 | q5k2 | q5k3 | q5k4 | q5k5 => k_asm); (case q5k6 | q5k7 => k_is); (case q5k8 => walk_at "nz room"); (case q5k9 => exact BindsTo.of_eq rfl); (case q5c5 => decide); (case q5kB => exact locs rfl); (case q5c2 | q5c3 | q5c4 => exact rfl); k_whole; intro gpq5 Lpq5 hpq5 FGpq5 Fpq5 Npq5 Bpq5 Xpq5 Tpq5; (try dsimp only); (try k_lift Bpq5); (try k_fold); with_reducible refine anyE fun EE => ?_) | (refine' code_defC ?q5k1 ?q5k2 ?q5k3 ?q5k4 ?q5k5 ?q5kA ?q5kF ?q5kK ?q5k6 ?q5k7 ?q5k8 ?q5k9 ?q5kB ?q5kD ?_ ?q5c2 ?q5c3 ?q5c4; (case q5kA => walk_at "nz hA"); (case q5kF | q5kK => first | assumption | exact rfl); (case q5k1 | q5k2 | q5k3 | q5k4 | q5k5 => k_asm); (case q5k6 | q5k7 => k_is); (case q5k8 => walk_at "nz room"); (case q5k9 => exact BindsTo.of_eq rfl); (case q5kB => exact rfl); (case q5kD => decide +kernel); (case q5c2 | q5c3 | q5c4 => exact rfl); k_whole; intro gpq5 Lpq5 hpq5 tkpq5 cellspq5 FGpq5 Fpq5 Npq5 Ypq5 Bpq5 Xpq5 Tpq5 l1q5; (try k_lt l1q5); k_cells Ypq5; (try simp only [List.cons_append, List.nil_append] at Npq5); (try dsimp only); (try k_lift Bpq5); (try k_fold); with_reducible refine anyE fun EE => ?_))
  (k_with "zeval ListComp" => (k_here; refine Hold.go ?_))
  (k_with "zexec Assign cons ListComp" => (k_here; refine Hold.go ?_))
  (k_with "zcall ref" => (k_here; refine Hold.go ?_))
  (k_with "zexec For" => (k_here; refine Hold.go ?_))
  (k_with "znz fit" => (first | with_reducible assumption | exact fit_row (by with_reducible assumption) (by with_reducible assumption) | exact lt_len (by with_reducible assumption) (by with_reducible assumption) | omega | ((try simp only [List.length_map, List.length_cons, List.length_nil, List.size_toArray]); omega)))
  (k_with "zcall builtin:len" => (k_here; (with_reducible show wpAny _ _ (call (Value.builtin "len") [Value.ref _]) _ _ _); k_dflt (refine' nz_len ?q11N ?q11m ?q11f ?_; (case q11N => k_asm); (case q11m => k_mem); (case q11f => walk_at "nz fit"); k_whole)))
  (k_with "zsubscriptTail" => (k_here; (with_reducible show wpAny _ _ (subscriptTail _ _ (Value.ref _) (Value.int _ _)) _ _ _); k_dflt (refine' nz_item ?q12N ?q12m ?q12a ?q12b ?q12f ?_ ?q12k; (case q12N => k_asm); (case q12m => k_mem); (case q12a | q12b | q12f => walk_at "nz fit"); (case q12k => with_unfolding_all rfl); k_whole); intro vpq12 hvpq12))
  (k_with "zexecs cons" => (k_here; first | k_gentoks | (k_made; walk_at "execs cons") | (with_reducible refine cut_cons fun qk hqk => ?_)))
  (k_with "zQEnd" => (refine' behind_go ?q14h ?_; (case q14h => with_reducible assumption); dsimp only))
  (k_with "zcall ref" => (k_here; refine wpAny_call ?_; k_dflt (refine' take_t ?q16B ?q16F ?q16X ?q16T ?q16hf ?q16hk ?q16N ?q16U ?q16hS ?q16hd ?q16hu ?q16ht ?q16ht2 ?_; (case q16B | q16F | q16X | q16T => k_asm); (case q16hf | q16hk => first | assumption | exact rfl); (case q16N => k_asm); (case q16U => k_updF); (case q16hS => assumption); (case q16hd => walk_at "nz room"); (case q16hu => walk_at "nz units"); (case q16ht | q16ht2 => omega); k_whole); intro dpq16 tdpq16 opq16 hpq16 tkpq16 hd0pq16 hd1pq16 hSpq16 Upq16 Kpq16 Fpq16 Npq16; (try dsimp only at Npq16 Upq16 Kpq16); (try k_sweep); (try dsimp only)))
  trivial
section
variable {w : World} {mean : ExcName → Option Value} {mg mb : Str → Option Value} {A₀ : Around} {dp un : Nat} {gd : Option (List Code)} {env : Env} {outer : List Env} {base h₀ : Heap} {L : Addr} {m : Str → Option Value} {s : Shared} {R : Result → Shared → Prop} {news : List (Addr × Obj)}
  (B : Below A₀ base outer h₀) (F : Fr h₀ L s.heap m) (X : (Mine.hd.heap_39 w.params).In h₀) (T : TopH mean mg mb h₀)
  (hf : env.frame = some L) (hk : env.scope.kind = .function)
include B F X T hf hk


theorem one_t {src th : Addr} {o : Obj} {g : Obj → List (Addr × Obj)} {vs : List Value} {k : Nat} (N : News h₀ L s.heap news) (U : UpdF src o news g) (hS : SrcOk o) (hth : (th, listOf vs.toArray k) ∈ news) (hne : th ≠ src) (hlen : 0 < vs.length) (hlen2 : vs.length < 1000)
    (hd : dp + 2 ≤ 400) (hu : un + 40 ≤ 1000)
    (ret : ∀ (i : Nat) (v : Value) o' h' tk', vs[i]? = some v → SrcOk o' → UpdF src o' (g o') g → Kept news src (g o') → Fr h₀ L h' m → News h₀ L h' (g o') → R (.ok (.ret v)) { s with heap := h', toks := tk' }) :
    codeAny (model PySem.Challenge.pw_nz0241_01 w) (nzA dp un gd env outer) (.call (.ref 138) ⟨[.ref src, .ref th], []⟩) R s := by
  k_dflt walk_at "nz enter"
  k_steps
  exact ret _ _ _ _ _ (by assumption) (by assumption) (by assumption) (by assumption) (by k_asm) (by k_asm)

theorem pool_t {l : Addr} {vs : List Value} {ns : List Int} {t0 : Tok} (N : News h₀ L s.heap news) (hl : base.IsList l vs.toArray) (hi : IntsAre vs ns) (hlen : ns.length ≤ 63) (hd : dp + 2 ≤ 400) (hu : un + 40 ≤ 1000)
    (ret : ∀ (D : Addr) (o' : Obj) h' tk', SrcOk o' → Fr h₀ L h' m → News h₀ L h' ((D, o') :: news) → AllLt D news → R (.ok (.ret (.ref D))) { s with heap := h', toks := tk' }) :
    codeAny (model PySem.Challenge.pw_nz0241_01 w) (nzA dp un gd env outer) (.call (.ref 124) ⟨[.ref l, .int 0 t0], []⟩) R s := by
  k_dflt walk_at "nz enter"
  k_steps
  all_goals (refine ret _ _ _ _ ⟨_, _, _, _, _, rfl, ?_, ?_, ?_⟩ (by k_asm) (by k_asm) (by assumption))
  all_goals first | exact Int.fmod_nonneg_of_pos _ (by decide) | exact Int.fmod_lt_of_pos _ (by decide) | skip
  all_goals (refine Int.mul_nonneg ?_ ?_; (split <;> omega); exact ite01 _)

end
section
variable {prog : Program} {w : World} {A : Around} {s : Shared} {h₀ : Heap} {L : Addr} {m : Str → Option Value} {env : Env}
theorem compEnd_mono {s₁ s₂ : Shared} {I C D : Addr} {oI oC oD : Obj} {S : List (Addr × Obj) → Prop} {rest rest' : Value → List (Addr × Obj) → Prop} {y : Value} (h : LCg.CompEnd h₀ L m s₁ I oI C oC D oD S rest y s₂)
    (k : ∀ news', rest y news' → rest' y news') : LCg.CompEnd h₀ L m s₁ I oI C oC D oD S rest' y s₂ := by
  obtain ⟨h', tk, news', e, F', N', off, hS, r⟩ := h
  exact ⟨h', tk, news', e, F', N', off, hS, k _ r⟩
theorem compRest_inv {elt : Expr} {x : Str} {scope : Scope} {cl : List (Str × Addr)} {S : List (Addr × Obj) → Prop} {P : Nat → Value → Prop} {Fin : List Value → List (Addr × Obj) → Prop} {n : Nat}
    (J : Nat → List Value → List (Addr × Obj) → Prop)
    (step : ∀ i ys news, i < n → J i ys news → ∀ v I oI C oC D m₂ h tk (E' : Value → Shared → Prop), P i v → LCg.NsObj oC m₂ → m₂ x = some v → Fr h₀ L h m → News h₀ L h ((I, oI) :: (C, oC) :: (D, LCg.lst ys) :: news) → LCg.Off3 I C D news → ((@Ne Nat I C) ∧ (@Ne Nat I D) ∧ (@Ne Nat C D)) →
      wpAny (model prog w) A (eval elt (compEnvC scope cl C env)) (LCg.CompEnd h₀ L m { s with heap := h, toks := tk } I oI C oC D (LCg.lst ys) S (fun y news' => J (i + 1) (ys ++ [y]) news')) E' { s with heap := h, toks := tk })
    (fin : ∀ ys news, J n ys news → Fin ys news) : ∀ k i ys news, i + k = n → J i ys news → LCg.CompRest prog w A h₀ L m env elt x scope cl s S P Fin k i ys news := by
  intro k
  induction k with
  | zero =>
    intro i ys news hi hj
    obtain rfl : i = n := hi
    exact LCg.CompRest.zero (fin _ _ hj)
  | succ k ih =>
    intro i ys news hi hj
    refine LCg.CompRest.succ fun v I oI C oC D m₂ h tk E' hv hC hx F' N' off ne => ?_
    exact wpAny_mono (step i ys news (by omega) hj v I oI C oC D m₂ h tk E' hv hC hx F' N' off ne) (fun y s₂ h₂ => compEnd_mono h₂ fun news' hj' => ih (i + 1) (ys ++ [y]) news' (by omega) hj') fun _ _ e => e
theorem compEnd_done {s₁ : Shared} {I C D : Addr} {oI oC oD : Obj} {S : List (Addr × Obj) → Prop} {rest : Value → List (Addr × Obj) → Prop} {y : Value} {h' : Heap} {tk : Nat} {all : List (Addr × Obj)}
    (F' : Fr h₀ L h' m) (N' : News h₀ L h' all) (news' : List (Addr × Obj)) (sub : ∀ p ∈ (I, oI) :: (C, oC) :: (D, oD) :: news', p ∈ all) (off : LCg.Off3 I C D news') (hS : S news') (r : rest y news') :
    Hold (LCg.CompEnd h₀ L m s₁ I oI C oC D oD S rest y { s₁ with heap := h', toks := tk }) := LCg.CompEnd.intro F' N' news' sub off hS r
theorem off3_upd {I C D src : Addr} {o o' : Obj} {l : List (Addr × Obj)} {g : Obj → List (Addr × Obj)} (U : UpdF src o l g) (h : LCg.Off3 I C D l) : LCg.Off3 I C D (g o') := LCg.Off3.of fun p hp => by
  rcases updF_back U hp with rfl | hp
  · exact (LCg.Off3.mem h (src, o) (updF_at U) : _)
  · exact LCg.Off3.mem h p hp
theorem off3_src {I C D src : Addr} {o : Obj} {l : List (Addr × Obj)} {g : Obj → List (Addr × Obj)} (U : UpdF src o l g) (h : LCg.Off3 I C D l) : (@Ne Nat I src) ∧ (@Ne Nat C src) ∧ (@Ne Nat D src) :=
  let q := LCg.Off3.mem h _ (updF_at U); ⟨Ne.symm q.1, Ne.symm q.2.1, Ne.symm q.2.2⟩
theorem off1_at {D : Addr} : ∀ {l : List (Addr × Obj)}, LCg.Off1 D l → ∀ p ∈ l, @Ne Nat D p.1
  | [], _, _, h => nomatch h
  | _ :: _, x, p, h => by
    rcases List.mem_cons.mp h with rfl | h
    · exact Ne.symm x.1
    · exact off1_at x.2 p h
theorem range_size {b : Int} (h0 : 0 ≤ b) : Builtin.Range.rangeSize 0 b 1 = ((b.toNat : Nat) : Int) := by
  unfold Builtin.Range.rangeSize
  simp
  omega
theorem range_small {b : Int} (h0 : 0 ≤ b) (h1 : b < 1000) : Builtin.Range.small 0 b 1 = true := small_one (by decide) (by decide) (by omega) (by omega)
theorem range_small2 {a b : Int} (h0 : -1000 ≤ a) (h1 : a < 1000) (h2 : -1000 ≤ b) (h3 : b < 1000) : Builtin.Range.small a b 1 = true := small_one (by omega) (by omega) (by omega) (by omega)
end
-- nz names
theorem off_L3 : True := by
  w_top off
  k_with_none
  (k_with "znz in" => first | with_reducible assumption | with_reducible exact List.mem_cons_self | ((with_reducible refine List.mem_cons_of_mem _ ?_); walk_at "nz in") | ((with_reducible refine List.mem_append_right _ ?_); walk_at "nz in") | ((with_reducible refine List.mem_append_left _ ?_); walk_at "nz in"))
  (k_with "znz hA" => exact rfl)
  (k_with "znz room" => (first | exact room1 (by with_reducible assumption) rfl | exact room2 (by with_reducible assumption) rfl | omega | ((try simp only [depth_under_make, depth_under_kw, depth_in1, depth_deeper]); (try dsimp only [nzA]); (try simp only [recursionLimit]); omega)))
  (k_with "znz units" => (first | exact room1 (by with_reducible assumption) rfl | exact room2 (by with_reducible assumption) rfl | omega | ((try simp only [units_in1, units_deeper, Around.mark_units]); (try dsimp only [nzA]); (try simp only [cLine]); omega)))
  (k_with "znz enter" => first | (refine' code_def ?q5k1 ?q5k2 ?q5k3 ?q5k4 ?q5k5 ?q5kA ?q5kF ?q5kK ?q5k6 ?q5k7 ?q5k8 ?q5k9 ?q5kB ?_ ?q5c2 ?q5c3 ?q5c4 ?q5c5; (case q5kA => walk_at "nz hA"); (case q5kF | q5kK => first | assumption | exact rfl); (case q5k1 | q5k2 | q5k3 | q5k4 | q5k5 => k_asm); (case q5k6 | q5k7 => k_is); (case q5k8 => walk_at "nz room"); (case q5k9 => exact BindsTo.of_eq rfl); (case q5c5 => decide); (case q5kB => exact locs rfl); (case q5c2 | q5c3 | q5c4 => exact rfl); k_whole; intro gpq5 Lpq5 hpq5 FGpq5 Fpq5 Npq5 Bpq5 Xpq5 Tpq5; (try dsimp only); (try k_lift Bpq5); (try k_fold); with_reducible refine anyE fun EE => ?_) | (refine' code_defC ?q5k1 ?q5k2 ?q5k3 ?q5k4 ?q5k5 ?q5kA ?q5kF ?q5kK ?q5k6 ?q5k7 ?q5k8 ?q5k9 ?q5kB ?q5kD ?_ ?q5c2 ?q5c3 ?q5c4; (case q5kA => walk_at "nz hA"); (case q5kF | q5kK => first | assumption | exact rfl); (case q5k1 | q5k2 | q5k3 | q5k4 | q5k5 => k_asm); (case q5k6 | q5k7 => k_is); (case q5k8 => walk_at "nz room"); (case q5k9 => exact BindsTo.of_eq rfl); (case q5kB => exact rfl); (case q5kD => decide +kernel); (case q5c2 | q5c3 | q5c4 => exact rfl); k_whole; intro gpq5 Lpq5 hpq5 tkpq5 cellspq5 FGpq5 Fpq5 Npq5 Ypq5 Bpq5 Xpq5 Tpq5 l1q5; (try k_lt l1q5); k_cells Ypq5; (try simp only [List.cons_append, List.nil_append] at Npq5); (try dsimp only); (try k_lift Bpq5); (try k_fold); with_reducible refine anyE fun EE => ?_))
  (k_with "zeval ListComp" => (k_here; refine Hold.go ?_))
  (k_with "zexec Assign cons ListComp" => (k_here; refine Hold.go ?_))
  (k_with "zcall ref" => (k_here; refine Hold.go ?_))
  (k_with "zexec For" => (k_here; refine Hold.go ?_))
  (k_with "znz fit" => (first | with_reducible assumption | exact fit_row (by with_reducible assumption) (by with_reducible assumption) | exact lt_len (by with_reducible assumption) (by with_reducible assumption) | omega | ((try simp only [List.length_map, List.length_cons, List.length_nil, List.size_toArray]); omega)))
  (k_with "zcall builtin:len" => (k_here; (with_reducible show wpAny _ _ (call (Value.builtin "len") [Value.ref _]) _ _ _); k_dflt (refine' nz_len ?q11N ?q11m ?q11f ?_; (case q11N => k_asm); (case q11m => k_mem); (case q11f => walk_at "nz fit"); k_whole)))
  (k_with "zsubscriptTail" => (k_here; (with_reducible show wpAny _ _ (subscriptTail _ _ (Value.ref _) (Value.int _ _)) _ _ _); k_dflt (refine' nz_item ?q12N ?q12m ?q12a ?q12b ?q12f ?_ ?q12k; (case q12N => k_asm); (case q12m => k_mem); (case q12a | q12b | q12f => walk_at "nz fit"); (case q12k => with_unfolding_all rfl); k_whole); intro vpq12 hvpq12))
  (k_with "zexecs cons" => (k_here; first | k_gentoks | (k_made; walk_at "execs cons") | (with_reducible refine cut_cons fun qk hqk => ?_)))
  (k_with "zQEnd" => (refine' behind_go ?q14h ?_; (case q14h => with_reducible assumption); dsimp only))
  (k_with "zeval Name" => (k_here; (with_reducible show wpAny _ _ (eval (Expr.Name _ _) (compEnvC _ _ _ _)) _ _ _); k_dflt (first | refine LCgL.ld_own (by k_asm) (by k_mem) (by assumption) (by assumption) ?_ | refine kcf_cell (by k_asm) (by rfl) (by k_mem) (by k_asm) ?_ | refine LCgL.ld_global (by k_asm) (by k_asm) (by k_asm) (by k_is) ?_ | refine LCgL.ld_built (by k_asm) (by k_asm) (by k_asm) (by k_is) (by boot_by_name) (by decide) ?_ | refine Hold.go ?_)))
  (k_with "zCompEnd" => (k_here; refine Hold.go ?_))
  (k_with "zCompSrc" => (k_here; refine Hold.go ?_))
  (k_with "zcall ref" => (k_here; refine wpAny_call ?_; k_dflt (refine' take_t ?q20B ?q20F ?q20X ?q20T ?q20hf ?q20hk ?q20N ?q20U ?q20hS ?q20hd ?q20hu ?q20ht ?q20ht2 ?_; (case q20B | q20F | q20X | q20T => k_asm); (case q20hf | q20hk => first | assumption | exact rfl); (case q20N => k_asm); (case q20U => k_updF); (case q20hS => assumption); (case q20hd => walk_at "nz room"); (case q20hu => walk_at "nz units"); (case q20ht | q20ht2 => omega); k_whole); intro dpq20 tdpq20 opq20 hpq20 tkpq20 hd0pq20 hd1pq20 hSpq20 Upq20 Kpq20 Fpq20 Npq20; (try dsimp only at Npq20 Upq20 Kpq20); (try k_sweep); (try dsimp only)))
  (k_with "zcall ref" => (k_here; refine wpAny_call ?_; k_dflt (refine' one_t ?q21B ?q21F ?q21X ?q21T ?q21hf ?q21hk ?q21N ?q21U ?q21hS ?q21hth ?q21hne ?q21ht ?q21ht2 ?q21hd ?q21hu ?_; (case q21B | q21F | q21X | q21T => k_asm); (case q21hf | q21hk => first | assumption | exact rfl); (case q21N => k_asm); (case q21U => k_updF); (case q21hS => assumption); (case q21hth => k_mem); (case q21hne => k_ne); (case q21ht | q21ht2 => simp); (case q21hd => walk_at "nz room"); (case q21hu => walk_at "nz units"); k_whole); intro ipq21 vpq21 opq21 hpq21 tkpq21 hivpq21 hSpq21 Upq21 Kpq21 Fpq21 Npq21; (try dsimp only at Npq21 Upq21 Kpq21); (obtain ⟨kpq21, tpq21, hvpq21, hk1pq21, hk2pq21⟩ := ints3 hivpq21); subst hvpq21; clear hivpq21; (try k_sweep); (try dsimp only)))
  trivial
section
variable {w : World} {mean : ExcName → Option Value} {mg mb : Str → Option Value} {A₀ : Around} {dp un : Nat} {gd : Option (List Code)} {env : Env} {outer : List Env} {base h₀ : Heap} {L : Addr} {m : Str → Option Value} {s : Shared} {R : Result → Shared → Prop} {news : List (Addr × Obj)}
  (B : Below A₀ base outer h₀) (F : Fr h₀ L s.heap m) (X : (Mine.hd.heap_39 w.params).In h₀) (T : TopH mean mg mb h₀)
  (hf : env.frame = some L) (hk : env.scope.kind = .function)
include B F X T hf hk


theorem rows_t {src : Addr} {o : Obj} {g : Obj → List (Addr × Obj)} (N : News h₀ L s.heap news) (U : UpdF src o news g) (hS : SrcOk o) 
    (hd : dp + 3 ≤ 400) (hu : un + 60 ≤ 1000)
    (ret : ∀ (M : List (List Int)) (W : Nat) (r : Addr) tl o' h' tk', 1 ≤ M.length → M.length ≤ 4 → 1 ≤ W → W ≤ 4 → (∀ row ∈ M, row.length = W) → Apart tl news → DatIn tl (.ref r) (matD M) → SrcOk o' → UpdF src o' (g o') g → Kept news src (g o') → Fr h₀ L h' m → News h₀ L h' (tl ++ g o') → R (.ok (.ret (.ref r))) { s with heap := h', toks := tk' }) :
    codeAny (model PySem.Challenge.pw_nz0241_01 w) (nzA dp un gd env outer) (.call (.ref 143) ⟨[.ref src], []⟩) R s := by
  obtain ⟨rest, hoff, N1, hin, hout, back⟩ := upd_norm N U
  clear U N
  k_dflt (refine' code_defC ?k1 ?k2 ?k3 ?k4 ?k5 ?kA ?kF ?kK ?k6 ?k7 ?k8 ?k9 ?kB ?kD ?_ ?c2 ?c3 ?c4; (case kA => exact rfl); (case kF => first | assumption | exact rfl); (case kK => first | assumption | exact rfl); (case k1 => k_asm); (case k2 => k_asm); (case k3 => k_asm); (case k4 => k_asm); (case k5 => k_asm); (case k6 => k_is); (case k7 => k_is); (case k8 => walk_at "nz room"); (case k9 => exact BindsTo.of_eq rfl); (case kB => exact rfl); (case kD => decide +kernel); (case c2 => exact rfl); (case c3 => exact rfl); (case c4 => exact rfl); k_whole; intro g1 L1 h1 tk1 cells1 FG1 F1 N1 Y1 B1 X1 T1 l1; (try k_lt l1); obtain ⟨oc1, oc2, oc3, hE, dc1, dc2, dc3⟩ := CellsAre.three Y1; subst hE; (try simp only [List.cons_append, List.nil_append] at N1); (try dsimp only); (try k_lift B1); (try k_fold); with_reducible refine anyE fun EE => ?_)
  k_steps
  unfold Hold
  k_dflt (refine LCg.ListComp_U (F₀ := by k_asm) (by with_unfolding_all rfl) (by decide) (by rfl) (by decide) (by rfl) ?_)
  k_steps
  unfold Hold
  (rename News _ _ _ _ => N9)
  (rename Fr _ _ _ _ => F9)
  have key : ∃ nw g9 o9 oa ob oc Wd Mo ta tb, News g1 L1 _ nw ∧ UpdF src o9 nw g9 ∧ SrcOk o9 ∧ (∀ p ∈ rest, p ∈ nw) ∧ (∀ o' p, p ∈ (src, o') :: rest → p ∈ g9 o') ∧
      (L1 + 1 + 1 + 1, oa) ∈ nw ∧ oa.data = .cell (some (.int Mo ta)) ∧ 0 < Mo ∧ Mo < 1000 ∧ (L1 + 1 + 1, ob) ∈ nw ∧ ob.data = .cell (some (.int Wd tb)) ∧ 1 ≤ Wd ∧ Wd ≤ 4 ∧ (L1 + 1, oc) ∈ nw ∧ oc.data = .cell (some (.ref src)) ∧ src < L1 :=
    ⟨_, _, _, _, _, _, _, _, _, _, N9, by k_updF, by assumption, by (intro p hp; walk_at "nz in"), by (intro o' p hp; walk_at "nz in"), by k_mem, by assumption, by omega, by omega, by k_mem, by assumption, by omega, by omega, by k_mem, by assumption, by omega⟩
  clear N9
  obtain ⟨nw, g9, o9, oa, ob, oc, Wd, Mo, ta, tb, N9, U9, hS9, hr9, hb9, ma, da, hMo1, hMo2, mb, db, hW1, hW2, mc, dc, hsl⟩ := key
  k_dflt (refine LCg.CompSrc.range (by rfl) (by k_asm) N9 (by assumption) (range_small (by omega) (by omega)) (range_size (by omega)) (by rw [sizeLine_eq]; omega) ?_)
  intro hp1
  k_dflt (refine compRest_inv (fun (i : Nat) (ys : List Value) (nw' : List (Addr × Obj)) => ∃ (tl : List (Addr × Obj)) (o' : Obj) (M : List (List Int)), nw' = tl ++ g9 o' ∧ SrcOk o' ∧ Apart tl nw ∧ DatAll tl ys (M.map rowD) ∧ (∀ row ∈ M, ((row : List Int).length : Int) = Wd) ∧ M.length = i) ?_ ?_ _ _ _ _ (Nat.zero_add _) ?_)
  · intro i ys nw' hi hJ v I oI C oC D m₂ h tk E' hv hC hx F' N' off ne
    obtain ⟨tl, o', M, rfl, hS', habove, hDs, hlen, hMl⟩ := hJ
    k_dflt (refine LCg.ListComp_U (F₀ := by k_asm) (by with_unfolding_all rfl) (by decide) (by rfl) (by decide) (by rfl) ?_)
    have mA : ∀ o', (L1 + 1 + 1 + 1, oa) ∈ g9 o' := fun _ => updF_mem U9 ma (by k_ne)
    have mC : ∀ o', (L1 + 1, oc) ∈ g9 o' := fun _ => updF_mem U9 mc (by k_ne)
    have mb' : (L1 + 1 + 1, ob) ∈ g9 o' := updF_mem U9 mb (by k_ne)
    k_steps
    unfold Hold
    obtain ⟨gI, hgI⟩ : ∃ gI, gI = fun o' => (I, oI) :: (C, oC) :: (D, LCg.lst ys) :: (tl ++ g9 o') := ⟨_, rfl⟩
    have hoffT : ∀ p ∈ tl, p.1 ≠ src := fun p hp => habove p hp _ (updF_at U9)
    have UI : UpdF src o' (gI o') gI := by
      subst hgI
      have o1 := LCg.Off3.mem off (src, o') (List.mem_append_right _ (updF_at (updF_again U9)))
      exact UpdF.tail (Ne.symm o1.1) (UpdF.tail (Ne.symm o1.2.1) (UpdF.tail (Ne.symm o1.2.2) (updF_app (updF_again U9) hoffT)))
    (rename News _ _ _ _ => N8)
    replace N8 := newsEq (l' := gI o') N8 (by subst hgI; rfl)
    k_dflt (refine LCg.CompSrc.range (by rfl) (by k_asm) N8 (by assumption) (range_small (by omega) (by omega)) (range_size (by omega)) (by rw [sizeLine_eq]; omega) ?_)
    intro hp2
    k_dflt (refine compRest_inv (fun (i : Nat) (ys : List Value) (nw' : List (Addr × Obj)) => ∃ (o' : Obj) (row : List Int), nw' = gI o' ∧ SrcOk o' ∧ DatAll [] ys (row.map .int) ∧ row.length = i) ?_ ?_ _ _ _ _ (Nat.zero_add _) ⟨o', [], rfl, hS', .nil, rfl⟩)
    · intro i2 ys2 nw2 hi2 hJ2 v2 I2 oI2 C2 oC2 D2 m2 h2 tk2 E2 hv2 hC2 hx2 F2 N2 off2 ne2
      obtain ⟨o2, row, rfl, hS2, hDs2, hlen2⟩ := hJ2
      have U2 : UpdF src o2 (gI o2) gI := updF_again UI
      have ma2 : (L1 + 1 + 1 + 1, oa) ∈ gI o2 := by subst hgI; exact .tail _ (.tail _ (.tail _ (List.mem_append_right _ (mA _))))
      have mc2 : (L1 + 1, oc) ∈ gI o2 := by subst hgI; exact .tail _ (.tail _ (.tail _ (List.mem_append_right _ (mC _))))
      obtain ⟨q1, q2, q3⟩ := off3_src U2 off2
      k_steps
      (rename SrcOk _ => hS3)
      (rename Fr _ _ _ _ => F3)
      (rename News _ _ _ _ => N3)
      refine compEnd_done F3 N3 (gI _) (by intro p hp; walk_at "nz in") (off3_upd U2 off2) trivial ⟨_, row ++ [_], rfl, hS3, datAll_int hDs2 _ _, by rw [List.length_append, hlen2]; rfl⟩
    · intro ys2 nw2 hJ2
      obtain ⟨o2, row, rfl, hS2, hDs2, hlen2⟩ := hJ2
      intro D2 h2 tk2 F2 N2 off2
      have offT : LCg.Off3 I C D (tl ++ g9 o2) := off3_upd (updF_app (updF_again U9) hoffT) off
      subst hgI
      obtain ⟨e1, e2, e3, off2⟩ := off2
      refine LCg.CompEnd.intro F2 N2 ((D2, LCg.lst ys2) :: (tl ++ g9 o2)) ?_ ⟨⟨Ne.symm e1, Ne.symm e2, Ne.symm e3⟩, offT⟩ trivial ⟨(D2, LCg.lst ys2) :: tl, o2, M ++ [row], rfl, hS2, ?_, ?_, ?_, by rw [List.length_append, hMl]; rfl⟩
      · intro p hp
        simp only [List.mem_cons] at hp ⊢
        rcases hp with h | h | h | h | h <;> simp [h]
      · exact Apart.cons (fun q hq => by
          by_cases eq : q.1 = src
          · rw [eq]; exact (off1_at off2 (src, o2) (List.mem_append_right _ (updF_at (updF_again U9))))
          · exact off1_at off2 q (List.mem_append_right _ (updF_mem U9 hq eq))) habove
      · refine datAll_row (datAll_up hDs fun p hp => .tail _ hp) (DatIn.list (.head _) (datAll_up hDs2 fun p hp => nomatch hp))
      · intro r hr
        rcases List.mem_append.mp hr with hr | hr
        · exact hlen r hr
        · rw [List.mem_singleton.mp hr, hlen2]; omega
  · intro ys nw' hJ
    obtain ⟨tl, o', M, rfl, hS', habove, hDs, hlen, hMl⟩ := hJ
    intro D2 h2 tk2 F2 N2 off2
    k_steps
    (rename News _ _ _ _ => NF)
    (rename Fr _ _ _ _ => FF)
    obtain ⟨b1, b2, b3⟩ := back o'
    refine ret M Wd.toNat D2 ((D2, LCg.lst ys) :: tl) o' _ _ (by omega) (by omega) (by omega) (by omega) (fun row hr => by have := hlen row hr; omega) ?_ (DatIn.list (.head _) (datAll_up hDs fun p hp => .tail _ hp)) hS' b1 b2 FF (newsSub NF fun p hp => ?_)
    · refine Apart.cons (fun q hq => ?_) fun p hp q hq => ?_
      · by_cases eq : q.1 = src
        · rw [eq]; exact off1_at off2 (src, o') (List.mem_append_right _ (updF_at (updF_again U9)))
        · exact off1_at off2 q (List.mem_append_right _ (updF_mem U9 (hr9 _ (hout q hq eq)) eq))
      · by_cases eq : q.1 = src
        · rw [eq]; exact habove p hp _ (updF_at U9)
        · exact habove p hp q (hr9 _ (hout q hq eq))
    · rcases List.mem_append.mp hp with hp | hp
      · rcases List.mem_cons.mp hp with rfl | hp
        · exact .head _
        · exact .tail _ (List.mem_append_left _ hp)
      · exact .tail _ (List.mem_append_right _ (hb9 _ _ (b3 _ hp)))
  · exact ⟨[], o9, [], (updF_self U9).symm, hS9, Apart.nil, .nil, (fun _ h => nomatch h), rfl⟩

end
theorem clampI_in {p n : Int} (h : 1 ≤ n) : 0 ≤ clampI p n ∧ clampI p n < n := by unfold clampI; split <;> (try split) <;> omega
theorem clampI_id {p n : Int} (h0 : 0 ≤ p) (h1 : p < n) : clampI p n = p := by unfold clampI; split <;> (try split) <;> omega

def getM (M : List (List Int)) (y x : Int) : Int := (M.getD y.toNat []).getD x.toNat 0

/-- a matrix of H rows of W each, both small -/
structure Mat (M : List (List Int)) (W H : Int) : Prop where
  h1 : 1 ≤ H
  h2 : H < 1000
  w1 : 1 ≤ W
  w2 : W < 1000
  len : (M.length : Int) = H
  row : ∀ r ∈ M, (r.length : Int) = W
theorem Mat.getRow {M : List (List Int)} {W H : Int} (h : Mat M W H) {k : Nat} {row : List Int} (e : M[k]? = some row) : (row.length : Int) = W := h.row _ (List.mem_of_getElem? e)
theorem getM_of {M : List (List Int)} {y x : Int} {row : List Int} {v : Int} (e1 : M[y.toNat]? = some row) (e2 : row[x.toNat]? = some v) : v = getM M y x := by
  simp [getM, List.getD_eq_getElem?_getD, e1, e2]

theorem datIn_list {nw : List (Addr × Obj)} {v : Value} {ds : List Dat} (h : DatIn nw v (.list ds)) : ∃ a vs n, v = .ref a ∧ (a, listOf vs.toArray n) ∈ nw ∧ DatAll nw vs ds := by
  cases h with
  | list hm hd => exact ⟨_, _, _, rfl, hm, hd⟩
theorem datIn_row {nw : List (Addr × Obj)} {a : Addr} {row : List Int} (h : DatIn nw (.ref a) (rowD row)) : ∃ vs n, (a, listOf vs.toArray n) ∈ nw ∧ DatAll nw vs (row.map .int) ∧ vs.length = row.length := by
  cases h with
  | list hm hd => exact ⟨_, _, hm, hd, by rw [hd.length, List.length_map]⟩
theorem datIn_mat {nw : List (Addr × Obj)} {a : Addr} {M : List (List Int)} (h : DatIn nw (.ref a) (matD M)) : ∃ vs n, (a, listOf vs.toArray n) ∈ nw ∧ DatAll nw vs (M.map rowD) ∧ vs.length = M.length := by
  cases h with
  | list hm hd => exact ⟨_, _, hm, hd, by rw [hd.length, List.length_map]⟩
theorem datAll_rowAt {nw : List (Addr × Obj)} {vs : List Value} {M : List (List Int)} (h : DatAll nw vs (M.map rowD)) {k : Nat} {v : Value} (e : vs[k]? = some v) : ∃ a row, v = .ref a ∧ M[k]? = some row ∧ DatIn nw (.ref a) (rowD row) := by
  have hk : k < (M.map rowD).length := by rw [← h.length]; exact (List.getElem?_eq_some_iff.mp e).1
  obtain ⟨v', e', hd⟩ := h.get hk
  rw [e] at e'
  cases e'
  rw [List.getElem_map] at hd
  obtain ⟨a, _, _, rfl, _, _⟩ := datIn_list hd
  exact ⟨a, _, rfl, List.getElem?_eq_getElem (by simpa using hk), hd⟩
theorem datAll_intAt {nw : List (Addr × Obj)} {vs : List Value} {row : List Int} (h : DatAll nw vs (row.map .int)) {k : Nat} {v : Value} (e : vs[k]? = some v) : ∃ i t, v = .int i t ∧ row[k]? = some i := by
  have hk : k < (row.map Dat.int).length := by rw [← h.length]; exact (List.getElem?_eq_some_iff.mp e).1
  obtain ⟨v', e', hd⟩ := h.get hk
  rw [e] at e'
  cases e'
  rw [List.getElem_map] at hd
  cases hd with
  | int i t => exact ⟨_, t, rfl, List.getElem?_eq_getElem (by simpa using hk)⟩

section
variable {prog : Program} {w : World} {A : Around} {E : Value → Shared → Prop} {s : Shared} {h₀ : Heap} {L : Addr} {news nw : List (Addr × Obj)} {a : Addr}
theorem mat_item {value slice : PySem.Expr} {M : List (List Int)} {k : Int} {u : Tok} {Q : Value → Shared → Prop} (N : News h₀ L s.heap news) (hM : DatIn nw (.ref a) (matD M)) (sub : ∀ p ∈ nw, p ∈ news)
    (h0 : 0 ≤ k) (h1 : k < (M.length : Int)) (hfit : M.length < 1000000) (h : ∀ b row, M[k.toNat]? = some row → DatIn nw (.ref b) (rowD row) → Q (.ref b) s)
    (hs : subscripted slice false (.ref a) (.int k u) = operate [.ref a, .int k u] (getItem (.ref a) (.int k u)) := by with_unfolding_all rfl) :
    wpAny (model prog w) A (subscriptTail value slice (.ref a) (.int k u)) Q E s := by
  obtain ⟨vs, n, hm, hd, hl⟩ := datIn_mat hM
  refine nz_item N (sub _ hm) h0 (by omega) (by omega) (fun v hv => ?_) hs
  obtain ⟨b, row, rfl, e, hr⟩ := datAll_rowAt hd hv
  exact h b row e hr
theorem row_item {value slice : PySem.Expr} {row : List Int} {k : Int} {u : Tok} {Q : Value → Shared → Prop} (N : News h₀ L s.heap news) (hM : DatIn nw (.ref a) (rowD row)) (sub : ∀ p ∈ nw, p ∈ news)
    (h0 : 0 ≤ k) (h1 : k < (row.length : Int)) (hfit : row.length < 1000000) (h : ∀ i t, row[k.toNat]? = some i → Q (.int i t) s)
    (hs : subscripted slice false (.ref a) (.int k u) = operate [.ref a, .int k u] (getItem (.ref a) (.int k u)) := by with_unfolding_all rfl) :
    wpAny (model prog w) A (subscriptTail value slice (.ref a) (.int k u)) Q E s := by
  obtain ⟨vs, n, hm, hd, hl⟩ := datIn_row hM
  refine nz_item N (sub _ hm) h0 (by omega) (by omega) (fun v hv => ?_) hs
  obtain ⟨i, t, rfl, e⟩ := datAll_intAt hd hv
  exact h i t e
theorem mat_len {M : List (List Int)} {Q : Value → Shared → Prop} (N : News h₀ L s.heap news) (hM : DatIn nw (.ref a) (matD M)) (sub : ∀ p ∈ nw, p ∈ news) (hfit : M.length < 1000000)
    (h : Q (.int (M.length : Int) (s.toks + 1)) { s with toks := s.toks + 1 + 1 }) : wpAny (model prog w) A (call (.builtin "len") [.ref a]) Q E s := by
  obtain ⟨vs, n, hm, hd, hl⟩ := datIn_mat hM
  exact nz_len N (sub _ hm) (by omega) (by rw [hl]; exact h)
theorem row_len {row : List Int} {Q : Value → Shared → Prop} (N : News h₀ L s.heap news) (hM : DatIn nw (.ref a) (rowD row)) (sub : ∀ p ∈ nw, p ∈ news) (hfit : row.length < 1000000)
    (h : Q (.int (row.length : Int) (s.toks + 1)) { s with toks := s.toks + 1 + 1 }) : wpAny (model prog w) A (call (.builtin "len") [.ref a]) Q E s := by
  obtain ⟨vs, n, hm, hd, hl⟩ := datIn_row hM
  exact nz_len N (sub _ hm) (by omega) (by rw [hl]; exact h)
end
theorem map_int_inj : ∀ {a b : List Int}, a.map Dat.int = b.map Dat.int → a = b
  | [], [], _ => rfl
  | [], _ :: _, h => by cases h
  | _ :: _, [], h => by cases h
  | x :: a, y :: b, h => by
    rw [List.map_cons, List.map_cons] at h
    injection h with h1 h2
    injection h1 with h1
    rw [h1, map_int_inj h2]
theorem rowD_inj {a b : List Int} (h : rowD a = rowD b) : a = b := by
  unfold rowD at h
  injection h with h
  exact map_int_inj h
theorem mapRow_inj : ∀ {a b : List (List Int)}, a.map rowD = b.map rowD → a = b
  | [], [], _ => rfl
  | [], _ :: _, h => by cases h
  | _ :: _, [], h => by cases h
  | x :: a, y :: b, h => by
    rw [List.map_cons, List.map_cons] at h
    injection h with h1 h2
    rw [rowD_inj h1, mapRow_inj h2]
theorem dec_eq {p q : Prop} (i : Decidable p) [Decidable q] (e : p ↔ q) : @decide p i = decide q := by
  by_cases h : q
  · rw [decide_eq_true h]; exact decide_eq_true (e.mpr h)
  · rw [decide_eq_false h]; exact decide_eq_false fun z => h (e.mp z)
theorem matOk (M : List (List Int)) : ∀ d ∈ M.map rowD, kqdOk 8 d = true := by
  intro d hd
  obtain ⟨r, _, rfl⟩ := List.mem_map.mp hd
  simp [rowD, kqdOk]
section
variable {prog : Program} {w : World} {A : Around} {E : Value → Shared → Prop} {s : Shared} {h₀ : Heap} {L : Addr} {news n1 n2 : List (Addr × Obj)} {a b : Addr} {M1 M2 : List (List Int)} {Q : Value → Shared → Prop}
theorem mat_eq (N : News h₀ L s.heap news) (h1 : DatIn n1 (.ref a) (matD M1)) (s1 : ∀ p ∈ n1, p ∈ news) (h2 : DatIn n2 (.ref b) (matD M2)) (s2 : ∀ p ∈ n2, p ∈ news) (hu : A.units + 64 < cLine) (h : Q (.bool (decide (M1 = M2))) s) :
    wpAny (model prog w) A (compareOp .Eq (.ref a) (.ref b)) Q E s := by
  obtain ⟨v1, k1, m1, d1, _⟩ := datIn_mat h1
  obtain ⟨v2, k2, m2, d2, _⟩ := datIn_mat h2
  refine kqd_eq N (s1 _ m1) rfl rfl d1 s1 (s2 _ m2) rfl rfl d2 s2 (matOk _) (matOk _) hu ?_
  have e : (M1.map rowD = M2.map rowD) ↔ (M1 = M2) := ⟨mapRow_inj, fun e => by rw [e]⟩
  exact (congrArg (fun b => Q (.bool b) s) (dec_eq _ e)).mpr h
theorem mat_ne (N : News h₀ L s.heap news) (h1 : DatIn n1 (.ref a) (matD M1)) (s1 : ∀ p ∈ n1, p ∈ news) (h2 : DatIn n2 (.ref b) (matD M2)) (s2 : ∀ p ∈ n2, p ∈ news) (hu : A.units + 64 < cLine) (h : Q (.bool (!decide (M1 = M2))) s) :
    wpAny (model prog w) A (compareOp .NotEq (.ref a) (.ref b)) Q E s := by
  obtain ⟨v1, k1, m1, d1, _⟩ := datIn_mat h1
  obtain ⟨v2, k2, m2, d2, _⟩ := datIn_mat h2
  refine kqd_ne N (s1 _ m1) rfl rfl d1 s1 (s2 _ m2) rfl rfl d2 s2 (matOk _) (matOk _) hu ?_
  have e : (M1.map rowD = M2.map rowD) ↔ (M1 = M2) := ⟨mapRow_inj, fun e => by rw [e]⟩
  exact (congrArg (fun b => Q (.bool (!b)) s) (dec_eq _ e)).mpr h
end
theorem off_L4 : True := by
  w_top off
  k_with_none
  (k_with "znz in" => first | with_reducible assumption | with_reducible exact List.mem_cons_self | ((with_reducible refine List.mem_cons_of_mem _ ?_); walk_at "nz in") | ((with_reducible refine List.mem_append_right _ ?_); walk_at "nz in") | ((with_reducible refine List.mem_append_left _ ?_); walk_at "nz in"))
  (k_with "znz hA" => exact rfl)
  (k_with "znz room" => (first | exact room1 (by with_reducible assumption) rfl | exact room2 (by with_reducible assumption) rfl | omega | ((try simp only [depth_under_make, depth_under_kw, depth_in1, depth_deeper]); (try dsimp only [nzA]); (try simp only [recursionLimit]); omega)))
  (k_with "znz units" => (first | exact room1 (by with_reducible assumption) rfl | exact room2 (by with_reducible assumption) rfl | omega | ((try simp only [units_in1, units_deeper, Around.mark_units]); (try dsimp only [nzA]); (try simp only [cLine]); omega)))
  (k_with "znz enter" => first | (refine' code_def ?q5k1 ?q5k2 ?q5k3 ?q5k4 ?q5k5 ?q5kA ?q5kF ?q5kK ?q5k6 ?q5k7 ?q5k8 ?q5k9 ?q5kB ?_ ?q5c2 ?q5c3 ?q5c4 ?q5c5; (case q5kA => walk_at "nz hA"); (case q5kF | q5kK => first | assumption | exact rfl); (case q5k1 | q5k2 | q5k3 | q5k4 | q5k5 => k_asm); (case q5k6 | q5k7 => k_is); (case q5k8 => walk_at "nz room"); (case q5k9 => exact BindsTo.of_eq rfl); (case q5c5 => decide); (case q5kB => exact locs rfl); (case q5c2 | q5c3 | q5c4 => exact rfl); k_whole; intro gpq5 Lpq5 hpq5 FGpq5 Fpq5 Npq5 Bpq5 Xpq5 Tpq5; (try dsimp only); (try k_lift Bpq5); (try k_fold); with_reducible refine anyE fun EE => ?_) | (refine' code_defC ?q5k1 ?q5k2 ?q5k3 ?q5k4 ?q5k5 ?q5kA ?q5kF ?q5kK ?q5k6 ?q5k7 ?q5k8 ?q5k9 ?q5kB ?q5kD ?_ ?q5c2 ?q5c3 ?q5c4; (case q5kA => walk_at "nz hA"); (case q5kF | q5kK => first | assumption | exact rfl); (case q5k1 | q5k2 | q5k3 | q5k4 | q5k5 => k_asm); (case q5k6 | q5k7 => k_is); (case q5k8 => walk_at "nz room"); (case q5k9 => exact BindsTo.of_eq rfl); (case q5kB => exact rfl); (case q5kD => decide +kernel); (case q5c2 | q5c3 | q5c4 => exact rfl); k_whole; intro gpq5 Lpq5 hpq5 tkpq5 cellspq5 FGpq5 Fpq5 Npq5 Ypq5 Bpq5 Xpq5 Tpq5 l1q5; (try k_lt l1q5); k_cells Ypq5; (try simp only [List.cons_append, List.nil_append] at Npq5); (try dsimp only); (try k_lift Bpq5); (try k_fold); with_reducible refine anyE fun EE => ?_))
  (k_with "zeval ListComp" => (k_here; refine Hold.go ?_))
  (k_with "zexec Assign cons ListComp" => (k_here; refine Hold.go ?_))
  (k_with "zcall ref" => (k_here; refine Hold.go ?_))
  (k_with "zexec For" => (k_here; refine Hold.go ?_))
  (k_with "znz fit" => (first | with_reducible assumption | exact fit_row (by with_reducible assumption) (by with_reducible assumption) | exact lt_len (by with_reducible assumption) (by with_reducible assumption) | omega | ((try simp only [List.length_map, List.length_cons, List.length_nil, List.size_toArray]); omega)))
  (k_with "zcall builtin:len" => (k_here; (with_reducible show wpAny _ _ (call (Value.builtin "len") [Value.ref _]) _ _ _); k_dflt (refine' nz_len ?q11N ?q11m ?q11f ?_; (case q11N => k_asm); (case q11m => k_mem); (case q11f => walk_at "nz fit"); k_whole)))
  (k_with "zsubscriptTail" => (k_here; (with_reducible show wpAny _ _ (subscriptTail _ _ (Value.ref _) (Value.int _ _)) _ _ _); k_dflt (refine' nz_item ?q12N ?q12m ?q12a ?q12b ?q12f ?_ ?q12k; (case q12N => k_asm); (case q12m => k_mem); (case q12a | q12b | q12f => walk_at "nz fit"); (case q12k => with_unfolding_all rfl); k_whole); intro vpq12 hvpq12))
  (k_with "zexecs cons" => (k_here; first | k_gentoks | (k_made; walk_at "execs cons") | (with_reducible refine cut_cons fun qk hqk => ?_)))
  (k_with "zQEnd" => (refine' behind_go ?q14h ?_; (case q14h => with_reducible assumption); dsimp only))
  (k_with "zeval Name" => (k_here; (with_reducible show wpAny _ _ (eval (Expr.Name _ _) (compEnvC _ _ _ _)) _ _ _); k_dflt (first | refine LCgL.ld_own (by k_asm) (by k_mem) (by assumption) (by assumption) ?_ | refine kcf_cell (by k_asm) (by rfl) (by k_mem) (by k_asm) ?_ | refine LCgL.ld_global (by k_asm) (by k_asm) (by k_asm) (by k_is) ?_ | refine LCgL.ld_built (by k_asm) (by k_asm) (by k_asm) (by k_is) (by boot_by_name) (by decide) ?_ | refine Hold.go ?_)))
  (k_with "zCompEnd" => (k_here; refine Hold.go ?_))
  (k_with "zCompSrc" => (k_here; refine Hold.go ?_))
  (k_with "znz sub" => first | with_reducible assumption | exact fun _ h => h | (intro p9q22 hp9q22; walk_at "nz in") | (intro p9q22 hp9q22; k_mem))
  (k_with "znz item" => (k_here; (with_reducible show wpAny _ _ (subscriptTail _ _ (Value.ref _) (Value.int _ _)) _ _ _); k_dflt (first | (refine' mat_item ?q23N ?q23m ?q23s ?q23a ?q23b ?q23f ?_ ?q23k; (case q23m => with_reducible assumption); (case q23N => k_asm); (case q23s => walk_at "nz sub"); (case q23a | q23b | q23f => walk_at "nz fit"); (case q23k => with_unfolding_all rfl); k_whole; intro bpq23 rowpq23 hrowpq23 hbrpq23; (try (have hlpq23 := Mat.getRow (by with_reducible assumption) hrowpq23))) | (refine' row_item ?q23N ?q23m ?q23s ?q23a ?q23b ?q23f ?_ ?q23k; (case q23m => with_reducible assumption); (case q23N => k_asm); (case q23s => walk_at "nz sub"); (case q23a | q23b | q23f => walk_at "nz fit"); (case q23k => with_unfolding_all rfl); k_whole; intro ipq23 tpq23 hipq23))))
  (k_with "zsubscriptTail" => walk_at "nz item")
  (k_with "zcall builtin:len" => (k_here; (with_reducible show wpAny _ _ (call (Value.builtin "len") [Value.ref _]) _ _ _); k_dflt (first | (refine' mat_len ?q25N ?q25m ?q25s ?q25f ?_; (case q25m => with_reducible assumption); (case q25N => k_asm); (case q25s => walk_at "nz sub"); (case q25f => walk_at "nz fit"); k_whole) | (refine' row_len ?q25N ?q25m ?q25s ?q25f ?_; (case q25m => with_reducible assumption); (case q25N => k_asm); (case q25s => walk_at "nz sub"); (case q25f => walk_at "nz fit"); k_whole))))
  (k_with "zcompareOp Eq ref ref" => (k_here; k_dflt (refine' mat_eq ?q26N ?q26a ?q26b ?q26c ?q26d ?q26u ?_; (case q26a | q26c => with_reducible assumption); (case q26N => k_asm); (case q26b | q26d => walk_at "nz sub"); (case q26u => walk_at "nz units"); k_whole)))
  (k_with "zcompareOp NotEq ref ref" => (k_here; k_dflt (refine' mat_ne ?q27N ?q27a ?q27b ?q27c ?q27d ?q27u ?_; (case q27a | q27c => with_reducible assumption); (case q27N => k_asm); (case q27b | q27d => walk_at "nz sub"); (case q27u => walk_at "nz units"); k_whole)))
  (k_with "zcall ref" => (k_here; refine wpAny_call ?_; k_dflt (refine' kept_t ?q28B ?q28F ?q28X ?q28T ?q28hf ?q28hk ?q28N ?q28hd ?q28hu ?_; (case q28B | q28F | q28X | q28T => k_asm); (case q28hf | q28hk => first | assumption | exact rfl); (case q28N => k_asm); (case q28hd => walk_at "nz room"); (case q28hu => walk_at "nz units"); k_whole); intro vpq28 tpq28 hpq28 tkpq28 hvpq28 hbpq28 Fpq28 Npq28; (try (obtain ⟨hv0pq28, hv1pq28⟩ := hbpq28 (by omega))); (try k_sweep); (try dsimp only)))
  trivial
section
variable {w : World} {mean : ExcName → Option Value} {mg mb : Str → Option Value} {A₀ : Around} {dp un : Nat} {gd : Option (List Code)} {env : Env} {outer : List Env} {base h₀ : Heap} {L : Addr} {m : Str → Option Value} {s : Shared} {R : Result → Shared → Prop} {news : List (Addr × Obj)}
  (B : Below A₀ base outer h₀) (F : Fr h₀ L s.heap m) (X : (Mine.hd.heap_39 w.params).In h₀) (T : TopH mean mg mb h₀)
  (hf : env.frame = some L) (hk : env.scope.kind = .function)
include B F X T hf hk

theorem plane_t {W H : Int} {tw th : Tok} {r : Addr} {Q : Value → Shared → Prop} {E : Value → Shared → Prop} (N : News h₀ L s.heap news) (hd : dp + 2 ≤ 400) (hu : un + 40 ≤ 1000)
    (ret : ∀ (x : Addr) (tl : List (Addr × Obj)) h' tk', PlIn tl x W H r → Apart tl news → Fr h₀ L h' m → News h₀ L h' (tl ++ news) → Q (.ref x) { s with heap := h', toks := tk' }) :
    wpAny (model PySem.Challenge.pw_nz0241_01 w) (nzA dp un gd env outer) (call (.ref 77) [.int W tw, .int H th, .ref r]) Q E s := by
  k_dflt (refine' call_cls ?k1 ?k2 ?k3 ?k4 ?k5 ?k6 ?_; (case k1 => k_asm); (case k2 => k_asm); (case k3 => k_asm); (case k4 => k_is); (case k5 => k_is); (case k6 => k_is); k_whole)
  intro x' d' h' F' N' l1 l2
  (k_lt l1)
  (k_lt2 l2)
  k_dflt (refine' code_def ?k1 ?k2 ?k3 ?k4 ?k5 ?kA ?kF ?kK ?k6 ?k7 ?k8 ?k9 ?kB ?_ ?c2 ?c3 ?c4 ?c5; (case kA => exact rfl); (case kF => first | assumption | exact rfl); (case kK => first | assumption | exact rfl); (case k1 => k_asm); (case k2 => k_asm); (case k3 => k_asm); (case k4 => k_asm); (case k5 => k_asm); (case k6 => k_is); (case k7 => k_is); (case k8 => walk_at "nz room"); (case k9 => exact BindsTo.of_eq rfl); (case c5 => decide); (case kB => exact locs rfl); (case c2 => exact rfl); (case c3 => exact rfl); (case c4 => exact rfl); k_whole; intro g1 L1 h1 FG1 F1 N1 B1 X1 T1; (try dsimp only); (try k_lift B1); (try k_fold); with_reducible refine anyE fun EE => ?_)

  k_steps
  have lt := allLt_all l1
  refine ret x' [(x', _), (d', _)] _ _ ⟨d', _, _, _, _, _, _, _, _, _, .head _, .tail _ (.head _)⟩ (Apart.cons (fun q hq => Nat.ne_of_gt (Nat.lt_trans (lt q hq) l2)) (Apart.cons (fun q hq => Nat.ne_of_gt (lt q hq)) Apart.nil)) (by k_asm) (by k_asm)

theorem at_t {x : Addr} {W H px py : Int} {tx ty : Tok} {r : Addr} {M : List (List Int)} {n0 n1 : List (Addr × Obj)} (N : News h₀ L s.heap news) (hp : PlIn n0 x W H r) (hp0 : ∀ p ∈ n0, p ∈ news) (hM : DatIn n1 (.ref r) (matD M)) (hM0 : ∀ p ∈ n1, p ∈ news) (hMat : Mat M W H) (hd : dp + 2 ≤ 400) (hu : un + 40 ≤ 1000)
    (ret : ∀ v t h' tk', v = getM M (clampI py H) (clampI px W) → Fr h₀ L h' m → News h₀ L h' news → R (.ok (.ret (.int v t))) { s with heap := h', toks := tk' }) :
    codeAny (model PySem.Challenge.pw_nz0241_01 w) (nzA dp un gd env outer) (.call (.ref 67) ⟨[.ref x, .int px tx, .int py ty], []⟩) R s := by
  obtain ⟨d, g1, g2, g3, t1, t2, t3, tw, th, n, hx, hdx⟩ := hp.mono hp0
  replace hM := hM.mono hM0
  obtain ⟨q1, q2, q3, q4, q5, q6⟩ := id hMat
  k_dflt (refine' code_def ?k1 ?k2 ?k3 ?k4 ?k5 ?kA ?kF ?kK ?k6 ?k7 ?k8 ?k9 ?kB ?_ ?c2 ?c3 ?c4 ?c5; (case kA => exact rfl); (case kF => first | assumption | exact rfl); (case kK => first | assumption | exact rfl); (case k1 => k_asm); (case k2 => k_asm); (case k3 => k_asm); (case k4 => k_asm); (case k5 => k_asm); (case k6 => k_is); (case k7 => k_is); (case k8 => walk_at "nz room"); (case k9 => exact BindsTo.of_eq rfl); (case c5 => decide); (case kB => exact locs rfl); (case c2 => exact rfl); (case c3 => exact rfl); (case c4 => exact rfl); k_whole; intro g1 L1 h1 FG1 F1 N1 B1 X1 T1; (try dsimp only); (try k_lift B1); (try k_fold); with_reducible refine anyE fun EE => ?_)

  k_steps
  subst_vars
  exact ret _ _ _ _ (getM_of (by assumption) (by assumption)) (by k_asm) (by k_asm)

theorem same_t {x1 x2 : Addr} {W1 H1 W2 H2 : Int} {r1 r2 : Addr} {M1 M2 : List (List Int)} {n1 n2 n3 n4 : List (Addr × Obj)} (N : News h₀ L s.heap news) (hp1 : PlIn n1 x1 W1 H1 r1) (s1 : ∀ p ∈ n1, p ∈ news) (hp2 : PlIn n2 x2 W2 H2 r2) (s2 : ∀ p ∈ n2, p ∈ news) (hM1 : DatIn n3 (.ref r1) (matD M1)) (s3 : ∀ p ∈ n3, p ∈ news) (hM2 : DatIn n4 (.ref r2) (matD M2)) (s4 : ∀ p ∈ n4, p ∈ news)
    (hd : dp + 1 ≤ 400) (hu : un + 20 ≤ 1000)
    (ret : ∀ b h' tk', (b = true ↔ (W1 = W2 ∧ H1 = H2 ∧ M1 = M2)) → Fr h₀ L h' m → News h₀ L h' news → R (.ok (.ret (.bool b))) { s with heap := h', toks := tk' }) :
    codeAny (model PySem.Challenge.pw_nz0241_01 w) (nzA dp un gd env outer) (.call (.ref 105) ⟨[.ref x1, .ref x2], []⟩) R s := by
  obtain ⟨d1, a1, a2, a3, t1, t2, t3, tw1, th1, k1, hx1, hdx1⟩ := hp1.mono s1
  obtain ⟨d2, b1, b2, b3, u1, u2, u3, tw2, th2, k2, hx2, hdx2⟩ := hp2.mono s2
  replace hM1 := hM1.mono s3
  replace hM2 := hM2.mono s4
  k_dflt (refine' code_def ?k1 ?k2 ?k3 ?k4 ?k5 ?kA ?kF ?kK ?k6 ?k7 ?k8 ?k9 ?kB ?_ ?c2 ?c3 ?c4 ?c5; (case kA => exact rfl); (case kF => first | assumption | exact rfl); (case kK => first | assumption | exact rfl); (case k1 => k_asm); (case k2 => k_asm); (case k3 => k_asm); (case k4 => k_asm); (case k5 => k_asm); (case k6 => k_is); (case k7 => k_is); (case k8 => walk_at "nz room"); (case k9 => exact BindsTo.of_eq rfl); (case c5 => decide); (case kB => exact locs rfl); (case c2 => exact rfl); (case c3 => exact rfl); (case c4 => exact rfl); k_whole; intro g1 L1 h1 FG1 F1 N1 B1 X1 T1; (try dsimp only); (try k_lift B1); (try k_fold); with_reducible refine anyE fun EE => ?_)

  k_steps
  all_goals (refine ret _ _ _ ?_ (by k_asm) (by k_asm); simp_all)

end
/-- the end of an element's walk: what came is the datum d, borne by new objects t -/
def EltEnd (h₀ : Heap) (L : Addr) (m : Str → Option Value) (led : List (Addr × Obj)) (d : Dat) (s₁ : Shared) (y : Value) (s₂ : Shared) : Prop :=
  ∃ t h' tk', s₂ = { s₁ with heap := h', toks := tk' } ∧ DatIn t y d ∧ Apart t led ∧ Fr h₀ L h' m ∧ News h₀ L h' (t ++ led)
theorem eltEnd_int {h₀ : Heap} {L : Addr} {m : Str → Option Value} {led : List (Addr × Obj)} {i j : Int} {s₁ : Shared} {t : Tok} {h' : Heap} {tk' : Nat} (F' : Fr h₀ L h' m) (N' : News h₀ L h' led) (e : i = j) :
    EltEnd h₀ L m led (.int j) s₁ (.int i t) { s₁ with heap := h', toks := tk' } := ⟨[], h', tk', rfl, e ▸ DatIn.int i t, Apart.nil, F', N'⟩

theorem eltEnd_bool {h₀ : Heap} {L : Addr} {m : Str → Option Value} {led : List (Addr × Obj)} {i j : Bool} {s₁ : Shared} {h' : Heap} {tk' : Nat} (F' : Fr h₀ L h' m) (N' : News h₀ L h' led) (e : i = j) :
    EltEnd h₀ L m led (.bool j) s₁ (.bool i) { s₁ with heap := h', toks := tk' } := ⟨[], h', tk', rfl, e ▸ DatIn.bool i, Apart.nil, F', N'⟩
theorem eltEnd_one {h₀ : Heap} {L : Addr} {m : Str → Option Value} {led : List (Addr × Obj)} {D : Addr} {o : Obj} {d : Dat} {s₁ : Shared} {h' : Heap} {tk' : Nat} (F' : Fr h₀ L h' m) (N' : News h₀ L h' ((D, o) :: led)) (hd : DatIn [(D, o)] (.ref D) d) (lt : ∀ q ∈ led, q.1 < D) :
    EltEnd h₀ L m led d s₁ (.ref D) { s₁ with heap := h', toks := tk' } := ⟨[(D, o)], h', tk', rfl, hd, Apart.cons (fun q hq => Nat.ne_of_gt (lt q hq)) Apart.nil, F', N'⟩
theorem range_map_succ (d : Nat → Dat) (n : Nat) : (List.range (n + 1)).map d = (List.range n).map d ++ [d n] := by rw [List.range_succ, List.map_append]; rfl

section
variable {prog : Program} {w : World} {A : Around} {s s₁ : Shared} {h₀ : Heap} {L : Addr} {m : Str → Option Value} {env : Env} {nw n0 : List (Addr × Obj)} {elt : Expr} {x : Str} {scope : Scope} {cl : List (Str × Addr)}

theorem compU {S : List (Addr × Obj) → Prop} {P : Nat → Value → Prop} {Fin : List Value → List (Addr × Obj) → Prop} {n : Nat} (d : Nat → Dat)
    (elt_ok : ∀ i tl v I oI C oC D oD m₂ h tk (E' : Value → Shared → Prop), i < n → P i v → LCg.NsObj oC m₂ → m₂ x = some v → Fr h₀ L h m → News h₀ L h ((I, oI) :: (C, oC) :: (D, oD) :: (tl ++ nw)) → LCg.Off3 I C D (tl ++ nw) → ((@Ne Nat I C) ∧ (@Ne Nat I D) ∧ (@Ne Nat C D)) → Apart tl nw →
      wpAny (model prog w) A (eval elt (compEnvC scope cl C env)) (EltEnd h₀ L m ((I, oI) :: (C, oC) :: (D, oD) :: (tl ++ nw)) (d i) { s with heap := h, toks := tk }) E' { s with heap := h, toks := tk })
    (fin : ∀ ys tl, ys.length = n → DatAll tl ys ((List.range n).map d) → Apart tl nw → Fin ys (tl ++ nw)) (hS : ∀ l, (∀ p ∈ nw, p ∈ l) → S l) :
    LCg.CompRest prog w A h₀ L m env elt x scope cl s S P Fin n 0 [] nw := by
  refine compRest_inv (fun i ys nw' => ∃ tl, nw' = tl ++ nw ∧ ys.length = i ∧ DatAll tl ys ((List.range i).map d) ∧ Apart tl nw) ?_ ?_ _ _ _ _ (Nat.zero_add _) ⟨[], rfl, rfl, .nil, Apart.nil⟩
  · rintro i ys _ hi ⟨tl, rfl, hl, hd, ha⟩ v I oI C oC D m₂ h tk E' hv hC hx F' N' off ne
    refine wpAny_mono (elt_ok i tl v I oI C oC D _ m₂ h tk E' hi hv hC hx F' N' off ne ha) (fun y s₂ q => ?_) fun _ _ e => e
    obtain ⟨t, h', tk', rfl, hy, ht, F2, N2⟩ := q
    refine LCg.CompEnd.intro F2 N2 ((t ++ tl) ++ nw) (fun p hp => ?_) (LCg.Off3.of fun p hp => ?_) (hS _ fun p hp => List.mem_append_right _ hp) ⟨t ++ tl, rfl, by rw [List.length_append, hl]; rfl, ?_, ?_⟩
    · simp only [List.mem_cons, List.mem_append] at hp ⊢
      rcases hp with h | h | h | (h | h) | h <;> simp [h]
    · rcases List.mem_append.mp hp with hp | hp
      · rcases List.mem_append.mp hp with hp | hp
        · exact ⟨ht p hp _ (.head _), ht p hp _ (.tail _ (.head _)), ht p hp _ (.tail _ (.tail _ (.head _)))⟩
        · exact LCg.Off3.mem off p (List.mem_append_left _ hp)
      · exact LCg.Off3.mem off p (List.mem_append_right _ hp)
    · rw [range_map_succ]
      exact DatAll.append (datAll_up hd fun p hp => List.mem_append_right _ hp) (.cons (DatIn.mono (fun p hp => List.mem_append_left _ hp) hy) .nil)
    · exact Apart.app (fun p hp q hq => ht p hp q (.tail _ (.tail _ (.tail _ (List.mem_append_right _ hq))))) ha
  · rintro ys _ ⟨tl, rfl, hl, hd, ha⟩
    exact fin ys tl hl hd ha

theorem comp_fin {D : Addr} {ys : List Value} {tl : List (Addr × Obj)} {ds : List Dat} (hd : DatAll tl ys ds) (ha : Apart tl nw) (ho : LCg.Off1 D (tl ++ nw)) :
    DatIn ((D, LCg.lst ys) :: tl) (.ref D) (.list ds) ∧ Apart ((D, LCg.lst ys) :: tl) nw :=
  ⟨DatIn.list (.head _) (datAll_up hd fun p hp => .tail _ hp), Apart.cons (fun q hq => off1_at ho q (List.mem_append_right _ hq)) ha⟩

theorem src_range {b : Int} {r : Addr} {t u v : Tok} {Fin : Shared → List Value → List (Addr × Obj) → Prop} (d : Nat → Dat) (hh : A.handled = none) (F : Fr h₀ L s₁.heap m) (N : News h₀ L s₁.heap nw) (hr : IsRange s₁.heap r 0 b 1 t u v) (h0 : 0 ≤ b) (h1 : b < 1000)
    (elt_ok : ∀ g i tl k tk0 I oI C oC D oD m₂ h tk (E' : Value → Shared → Prop), i < b.toNat → k = ((i : Nat) : Int) → LCg.NsObj oC m₂ → m₂ x = some (.int k tk0) → Fr h₀ L h m → News h₀ L h ((I, oI) :: (C, oC) :: (D, oD) :: (tl ++ nw)) → LCg.Off3 I C D (tl ++ nw) → ((@Ne Nat I C) ∧ (@Ne Nat I D) ∧ (@Ne Nat C D)) → Apart tl nw →
      wpAny (model prog w) A (eval elt (compEnvC scope cl C env)) (EltEnd h₀ L m ((I, oI) :: (C, oC) :: (D, oD) :: (tl ++ nw)) (d i) { { s₁ with heap := g } with heap := h, toks := tk }) E' { { s₁ with heap := g } with heap := h, toks := tk })
    (fin : ∀ g ys tl, ys.length = b.toNat → DatAll tl ys ((List.range b.toNat).map d) → Apart tl nw → Fin { s₁ with heap := g } ys (tl ++ nw)) :
    LCg.CompSrc prog w A h₀ L m env elt x scope cl Fin (.ref r) s₁ := by
  refine LCg.CompSrc.range hh F N hr (range_small h0 h1) (range_size h0) (by rw [sizeLine_eq]; omega) fun g => ?_
  refine compU d ?_ (fin g) (fun _ _ => trivial)
  rintro i tl v I oI C oC D oD m₂ h tk E' hi ⟨t0, rfl⟩ hC hx F' N' off ne ha
  exact elt_ok g i tl _ _ I oI C oC D oD m₂ h tk E' hi (Int.zero_add _) hC hx F' N' off ne ha

theorem src_range2 {a b : Int} {r : Addr} {t u v : Tok} {Fin : Shared → List Value → List (Addr × Obj) → Prop} (d : Nat → Dat) (n : Nat) (hh : A.handled = none) (F : Fr h₀ L s₁.heap m) (N : News h₀ L s₁.heap nw) (hr : IsRange s₁.heap r a b 1 t u v) (h0 : -1000 ≤ a) (h1 : b < 1000) (h2 : a < 1000) (hn : b = a + (n : Int))
    (elt_ok : ∀ g i tl k tk0 I oI C oC D oD m₂ h tk (E' : Value → Shared → Prop), i < n → k = a + ((i : Nat) : Int) → LCg.NsObj oC m₂ → m₂ x = some (.int k tk0) → Fr h₀ L h m → News h₀ L h ((I, oI) :: (C, oC) :: (D, oD) :: (tl ++ nw)) → LCg.Off3 I C D (tl ++ nw) → ((@Ne Nat I C) ∧ (@Ne Nat I D) ∧ (@Ne Nat C D)) → Apart tl nw →
      wpAny (model prog w) A (eval elt (compEnvC scope cl C env)) (EltEnd h₀ L m ((I, oI) :: (C, oC) :: (D, oD) :: (tl ++ nw)) (d i) { { s₁ with heap := g } with heap := h, toks := tk }) E' { { s₁ with heap := g } with heap := h, toks := tk })
    (fin : ∀ g ys tl, ys.length = n → DatAll tl ys ((List.range n).map d) → Apart tl nw → Fin { s₁ with heap := g } ys (tl ++ nw)) :
    LCg.CompSrc prog w A h₀ L m env elt x scope cl Fin (.ref r) s₁ := by
  subst hn
  have hsz : Builtin.Range.rangeSize a (a + (n : Int)) 1 = ((n : Nat) : Int) := by rw [rangeSize_one]; split <;> omega
  refine LCg.CompSrc.range hh F N hr (range_small2 h0 h2 (by omega) (by omega)) hsz (by rw [sizeLine_eq]; omega) fun g => ?_
  refine compU d ?_ (fin g) (fun _ _ => trivial)
  rintro i tl v I oI C oC D oD m₂ h tk E' hi ⟨t0, rfl⟩ hC hx F' N' off ne ha
  exact elt_ok g i tl _ _ I oI C oC D oD m₂ h tk E' hi rfl hC hx F' N' off ne ha

theorem src_list {r : Addr} {ds : List Dat} {Fin : Shared → List Value → List (Addr × Obj) → Prop} (d : Nat → Dat) (hh : A.handled = none) (F : Fr h₀ L s₁.heap m) (N : News h₀ L s₁.heap nw) (hM : DatIn n0 (.ref r) (.list ds)) (sub : ∀ p ∈ n0, p ∈ nw) (hsz : ds.length < 1000000)
    (elt_ok : ∀ g i tl v dv I oI C oC D oD m₂ h tk (E' : Value → Shared → Prop), ds[i]? = some dv → DatIn n0 v dv → LCg.NsObj oC m₂ → m₂ x = some v → Fr h₀ L h m → News h₀ L h ((I, oI) :: (C, oC) :: (D, oD) :: (tl ++ nw)) → LCg.Off3 I C D (tl ++ nw) → ((@Ne Nat I C) ∧ (@Ne Nat I D) ∧ (@Ne Nat C D)) → Apart tl nw →
      wpAny (model prog w) A (eval elt (compEnvC scope cl C env)) (EltEnd h₀ L m ((I, oI) :: (C, oC) :: (D, oD) :: (tl ++ nw)) (d i) { { s₁ with heap := g } with heap := h, toks := tk }) E' { { s₁ with heap := g } with heap := h, toks := tk })
    (fin : ∀ g ys tl, ys.length = ds.length → DatAll tl ys ((List.range ds.length).map d) → Apart tl nw → Fin { s₁ with heap := g } ys (tl ++ nw)) :
    LCg.CompSrc prog w A h₀ L m env elt x scope cl Fin (.ref r) s₁ := by
  obtain ⟨a, vs, k, e, hm, hd⟩ := datIn_list hM
  cases e
  have hl : vs.toArray.size = ds.length := by rw [List.size_toArray, hd.length]
  refine LCg.CompSrc.ledger hh F N (sub _ hm) (by rw [hl, sizeLine_eq]; omega) fun g => ?_
  rw [hl]
  refine compU d ?_ (fin g) (fun l hs => .inr ⟨_, hs _ (sub _ hm), rfl, _, rfl⟩)
  rintro i tl v I oI C oC D oD m₂ h tk E' hi hv hC hx F' N' off ne ha
  obtain ⟨v', e', hd'⟩ := hd.get hi
  have hv' : vs[i]? = some v := by simpa using hv
  rw [hv'] at e'
  cases e'
  exact elt_ok g i tl v _ I oI C oC D oD m₂ h tk E' (List.getElem?_eq_getElem hi) hd' hC hx F' N' off ne ha
end
theorem range_getD {α β : Type} (f : α → β) (z : α) (M : List α) : (List.range M.length).map (fun i => f (M.getD i z)) = M.map f := by
  apply List.ext_getElem
  · simp
  · intro i h1 h2
    have h3 : i < M.length := by simpa using h1
    simp [List.getD_eq_getElem?_getD, List.getElem?_eq_getElem h3]
section
variable {prog : Program} {w : World} {A : Around} {s s₁ : Shared} {h₀ : Heap} {L : Addr} {m : Str → Option Value} {env : Env} {nw n0 : List (Addr × Obj)} {elt : Expr} {x : Str} {scope : Scope} {cl : List (Str × Addr)}
theorem src_mat {r : Addr} {M : List (List Int)} {Fin : Shared → List Value → List (Addr × Obj) → Prop} (f : List Int → Dat) (hh : A.handled = none) (F : Fr h₀ L s₁.heap m) (N : News h₀ L s₁.heap nw) (hM : DatIn n0 (.ref r) (matD M)) (sub : ∀ p ∈ n0, p ∈ nw) (hsz : M.length < 1000000)
    (elt_ok : ∀ g (i : Nat) tl b (row : List Int) I oI C oC D oD m₂ h tk (E' : Value → Shared → Prop), M[i]? = some row → DatIn n0 (.ref b) (rowD row) → LCg.NsObj oC m₂ → m₂ x = some (.ref b) → Fr h₀ L h m → News h₀ L h ((I, oI) :: (C, oC) :: (D, oD) :: (tl ++ nw)) → LCg.Off3 I C D (tl ++ nw) → ((@Ne Nat I C) ∧ (@Ne Nat I D) ∧ (@Ne Nat C D)) → Apart tl nw →
      wpAny (model prog w) A (eval elt (compEnvC scope cl C env)) (EltEnd h₀ L m ((I, oI) :: (C, oC) :: (D, oD) :: (tl ++ nw)) (f row) { { s₁ with heap := g } with heap := h, toks := tk }) E' { { s₁ with heap := g } with heap := h, toks := tk })
    (fin : ∀ g ys tl, ys.length = M.length → DatAll tl ys (M.map f) → Apart tl nw → Fin { s₁ with heap := g } ys (tl ++ nw)) :
    LCg.CompSrc prog w A h₀ L m env elt x scope cl Fin (.ref r) s₁ := by
  refine src_list (ds := M.map rowD) (fun i => f (M.getD i [])) hh F N hM sub (by simpa using hsz) ?_ ?_
  · intro g i tl v dv I oI C oC D oD m₂ h tk E' hi hv hC hx F' N' off ne ha
    rw [List.getElem?_map] at hi
    obtain ⟨row, hrow, rfl⟩ := Option.map_eq_some_iff.mp hi
    obtain ⟨b, _, _, rfl, _, _⟩ := datIn_list hv
    have e : M.getD i [] = row := by simp [List.getD_eq_getElem?_getD, hrow]
    rw [e]
    exact elt_ok g i tl b row I oI C oC D oD m₂ h tk E' hrow hv hC hx F' N' off ne ha
  · intro g ys tl hl hd ha
    rw [List.length_map] at hl hd
    rw [range_getD] at hd
    exact fin g ys tl hl hd ha
end
theorem datAll_free {nw nw' : List (Addr × Obj)} : ∀ {vs : List Value} {row : List Int}, DatAll nw vs (row.map .int) → DatAll nw' vs (row.map .int)
  | _, [], h => by cases h; exact .nil
  | _, _ :: _, h => by
    cases h with
    | cons a b => cases a; exact .cons (.int _ _) (datAll_free b)
theorem datAll_rev {nw : List (Addr × Obj)} : ∀ {vs : List Value} {ds : List Dat}, DatAll nw vs ds → DatAll nw vs.reverse ds.reverse
  | _, _, .nil => .nil
  | _, _, .cons a b => by
    rw [List.reverse_cons, List.reverse_cons]
    exact DatAll.append (datAll_rev b) (.cons a .nil)
section
variable {prog : Program} {w : World} {A : Around} {E : Value → Shared → Prop} {s : Shared} {h₀ : Heap} {L a : Addr} {m : Str → Option Value} {news nw : List (Addr × Obj)} {row : List Int} {M : List (List Int)} {Q : Value → Shared → Prop}
theorem row_copy (F : Fr h₀ L s.heap m) (N : News h₀ L s.heap news) (hM : DatIn nw (.ref a) (rowD row)) (sub : ∀ p ∈ nw, p ∈ news) (hfit : row.length < 1000000)
    (h : ∀ D o h', Fr h₀ L h' m → News h₀ L h' ((D, o) :: news) → (∀ q ∈ news, q.1 < D) → DatIn [(D, o)] (.ref D) (rowD row) → Q (.ref D) { s with heap := h' }) : wpAny (model prog w) A (call (.type "list") [.ref a]) Q E s := by
  obtain ⟨vs, n, hm, hd, hl⟩ := datIn_row hM
  exact list_copyK F N ⟨_, (N _ (sub _ hm)).1, rfl, n, rfl⟩ (fun D c h' F' N' lt => h D _ h' F' N' lt (DatIn.list (n := c) (.head _) (datAll_free hd))) (by rw [List.size_toArray, sizeLine_eq]; omega)
theorem row_rev {value slice : Expr} {vk : Value} {ops : List Value} (F : Fr h₀ L s.heap m) (N : News h₀ L s.heap news) (hM : DatIn nw (.ref a) (rowD row)) (sub : ∀ p ∈ nw, p ∈ news) (hfit : row.length < 1000000) (pk : IsPart vk (some (-1)))
    (h : ∀ D o h', Fr h₀ L h' m → News h₀ L h' ((D, o) :: news) → (∀ q ∈ news, q.1 < D) → DatIn [(D, o)] (.ref D) (rowD row.reverse) → Q (.ref D) { s with heap := h' })
    (hs : subscripted slice false (.ref a) (.ref s.heap.objs.size) = operate ops (getItem (.ref a) (.ref s.heap.objs.size))) (ht : ∀ r, letTemporaryGo value (.ref a) r = pure ()) :
    wpAny (model prog w) A (subscriptTail value slice (.ref a) (.ref s.heap.objs.size)) Q E { s with heap := s.heap.push { cls := .type "slice", data := .fields #[.none, .none, vk] } } := by
  obtain ⟨vs, n, hm, hd, hl⟩ := datIn_row hM
  refine krv_lit (its := vs.toArray) (zs := vs.reverse) F N ⟨_, (N _ (sub _ hm)).1, rfl, n, rfl⟩ pk rfl (fun D h' F' N' lt => h D _ h' F' N' lt (DatIn.list (n := 0) (.head _) ?_)) hs ht (by rw [List.size_toArray, sizeLine_eq]; omega)
  rw [List.map_reverse]
  exact datAll_rev (datAll_free hd)
theorem mat_rev {value slice : Expr} {vk : Value} {ops : List Value} (F : Fr h₀ L s.heap m) (N : News h₀ L s.heap news) (hM : DatIn nw (.ref a) (matD M)) (sub : ∀ p ∈ nw, p ∈ news) (hfit : M.length < 1000000) (pk : IsPart vk (some (-1)))
    (h : ∀ D o h', Fr h₀ L h' m → News h₀ L h' ((D, o) :: news) → (∀ q ∈ news, q.1 < D) → DatIn ((D, o) :: nw) (.ref D) (matD M.reverse) → Q (.ref D) { s with heap := h' })
    (hs : subscripted slice false (.ref a) (.ref s.heap.objs.size) = operate ops (getItem (.ref a) (.ref s.heap.objs.size))) (ht : ∀ r, letTemporaryGo value (.ref a) r = pure ()) :
    wpAny (model prog w) A (subscriptTail value slice (.ref a) (.ref s.heap.objs.size)) Q E { s with heap := s.heap.push { cls := .type "slice", data := .fields #[.none, .none, vk] } } := by
  obtain ⟨vs, n, hm, hd, hl⟩ := datIn_mat hM
  refine krv_lit (its := vs.toArray) (zs := vs.reverse) F N ⟨_, (N _ (sub _ hm)).1, rfl, n, rfl⟩ pk rfl (fun D h' F' N' lt => h D _ h' F' N' lt (DatIn.list (n := 0) (.head _) ?_)) hs ht (by rw [List.size_toArray, sizeLine_eq]; omega)
  rw [List.map_reverse]
  exact datAll_rev (datAll_up hd fun p hp => .tail _ hp)
end
/-- the end of a turn of a loop -/
def TurnU (h₀ : Heap) (L : Addr) (I : Addr) (oI : Obj) (S : List (Addr × Obj) → Prop) (J : (Str → Option Value) → List (Addr × Obj) → Prop) (s₁ : Shared) (f : Flow) (s₂ : Shared) : Prop :=
  f = .next ∧ ∃ h' tk m' nw', s₂ = { s₁ with heap := h', toks := tk } ∧ Fr h₀ L h' m' ∧ News h₀ L h' ((I, oI) :: nw') ∧ (∀ p ∈ nw', @Ne Nat p.1 I) ∧ S nw' ∧ J m' nw'
section
variable {prog : Program} {w : World} {A : Around} {E : Value → Shared → Prop} {s : Shared} {h₀ : Heap} {L : Addr} {m : Str → Option Value} {env : Env} {nw : List (Addr × Obj)} {target : Expr} {body : List Stmt} {R : Result → Shared → Prop}
theorem for_U {I : Addr} {fp : List Addr} {n : Nat} {P : Nat → Value → Prop} {St : Nat → Heap → Prop} {S : List (Addr × Obj) → Prop} (J : Nat → (Str → Option Value) → List (Addr × Obj) → Prop)
    (W : Walks prog w A I fp [I] n P St) (hIo : ∀ i h, St i h → ∃ o, h.get? I = some o)
    (hSt : ∀ i h h' o nw, St i h → h.get? I = some o → h'.get? I = some o → (∀ b o, h₀.get? b = some o → h'.get? b = some o) → News h₀ L h' nw → S nw → St i h')
    (hst : St 0 s.heap) (F : Fr h₀ L s.heap m) (N : News h₀ L s.heap nw) (hIL : L ≠ I) (hI₀ : h₀.get? I = none) (off : ∀ p ∈ nw, @Ne Nat p.1 I) (hS : S nw) (hJ : J 0 m nw)
    (turn : ∀ i v oI m₁ nw₁ h tk (E' : Value → Shared → Prop), i < n → P i v → J i m₁ nw₁ → Fr h₀ L h m₁ → News h₀ L h ((I, oI) :: nw₁) → (∀ p ∈ nw₁, @Ne Nat p.1 I) →
      wpAny (model prog w) A (assign target env v) (fun _ s₂ => wpAny (model prog w) A (execs body env) (TurnU h₀ L I oI S (J (i + 1)) { s with heap := h, toks := tk }) E' s₂) E' { s with heap := h, toks := tk })
    (done : ∀ m' nw' h tk, J n m' nw' → Fr h₀ L h m' → News h₀ L h nw' → R (.ok .next) { s with heap := h, toks := tk })
    (ht : ∀ v, letOwnedTupleGo target (.ref I) v = pure () := by intro _; rfl) :
    codeAny (model prog w) A (.forLoop target (.ref I) body [] env) R s := by
  refine codeAny_forLoop (ht := ht)
    (fun k s' => ∃ h' tk m' nw' i, s' = { s with heap := h', toks := tk } ∧ St i h' ∧ Fr h₀ L h' m' ∧ News h₀ L h' nw' ∧ (∀ p ∈ nw', @Ne Nat p.1 I) ∧ S nw' ∧ J i m' nw' ∧ i ≤ n ∧ k = n + 1 - i) ?_ (n + 1)
    ⟨s.heap, s.toks, m, nw, 0, rfl, hst, F, N, off, hS, hJ, Nat.zero_le _, rfl⟩
  rintro k s' ⟨h', tk, m', nw', i, rfl, hst', F', N', off', hS', hJ', hi, rfl⟩
  by_cases hlt : i < n
  · refine W.item i _ _ _ hlt hst' fun v h₁ tk₁ hP hst₁ hk₁ => ?_
    have F₁ : Fr h₀ L h₁ m' := LCg.fr_but F' hk₁ hIL hI₀
    have N₁ : News h₀ L h₁ nw' := LCg.news_but N' hk₁ off'
    obtain ⟨oI, hoI⟩ := hIo _ _ hst₁
    have N₂ : News h₀ L h₁ ((I, oI) :: nw') := fun p hp => by
      rcases List.mem_cons.mp hp with rfl | hp
      · exact ⟨hoI, Ne.symm hIL, hI₀⟩
      · exact N₁ p hp
    refine wpAny_mono (turn i v oI m' nw' h₁ tk₁ _ hlt hP hJ' F₁ N₂ off') (fun _ s₂ h₂ => ?_) fun _ _ e => e
    refine wpAny_mono h₂ (fun f s₃ h₃ => ?_) fun _ _ e => e
    obtain ⟨rfl, h₃', tk₃, m₃, nw₃, rfl, F₃, N₃, off₃, hS₃, hJ₃⟩ := h₃
    have e3 := (N₃ (I, oI) (.head _)).1
    have N₃' : News h₀ L h₃' nw₃ := fun p hp => N₃ p (.tail _ hp)
    exact ⟨n + 1 - (i + 1), by omega, h₃', tk₃, m₃, nw₃, i + 1, rfl, hSt _ _ _ _ _ hst₁ hoI e3 F₃.keep N₃' hS₃, F₃, N₃', off₃, hS₃, hJ₃, hlt, rfl⟩
  · obtain rfl : i = n := by omega
    refine W.done _ _ _ hst' fun h₁ tk₁ hk₁ => wpAny_execs_nil ?_
    exact done m' nw' h₁ tk₁ hJ' (LCg.fr_but F' hk₁ hIL hI₀) (LCg.news_but N' hk₁ off')

theorem for_range {r : Addr} {b : Int} {t u v : Tok} (J : Nat → (Str → Option Value) → List (Addr × Obj) → Prop) (hh : A.handled = none) (hr : IsRange s.heap r 0 b 1 t u v) (h0 : 0 ≤ b) (h1 : b < 1000) (F : Fr h₀ L s.heap m) (N : News h₀ L s.heap nw) (hJ : J 0 m nw)
    (turn : ∀ I g i k tk0 oI m₁ nw₁ h tk (E' : Value → Shared → Prop), i < b.toNat → k = ((i : Nat) : Int) → J i m₁ nw₁ → Fr h₀ L h m₁ → News h₀ L h ((I, oI) :: nw₁) → (∀ p ∈ nw₁, @Ne Nat p.1 I) →
      wpAny (model prog w) A (assign target env (.int k tk0)) (fun _ s₂ => wpAny (model prog w) A (execs body env) (TurnU h₀ L I oI (fun _ => True) (J (i + 1)) { { s with heap := g } with heap := h, toks := tk }) E' s₂) E' { { s with heap := g } with heap := h, toks := tk })
    (done : ∀ g m' nw' h tk, J b.toNat m' nw' → Fr h₀ L h m' → News h₀ L h nw' → R (.ok .next) { { s with heap := g } with heap := h, toks := tk })
    (ht : ∀ I v, letOwnedTupleGo target (.ref I) v = pure () := by intro _ _; rfl) :
    wpAny (model prog w) A (pyIter (.ref r)) (fun it s₂ => codeAny (model prog w) A (.forLoop target it body [] env) R s₂) E s := by
  refine wpAny_pyIter_range hr (range_small h0 h1) ?_
  refine for_U J (LCg.range_walks hh 0 b.toNat) (fun i h st => ⟨_, st⟩) LCg.range_st (by show IsRangeIter _ _ _ _ _; rw [range_size h0]; simpa using Heap.get?_push_size _ rfl)
    (F.keeps fun _ _ e => Heap.get?_push_of_some _ e) (N.grown fun _ _ e => Heap.get?_push_of_some _ e) (Nat.ne_of_lt F.ns.lt) (next_is_new F) (fun p hp => Nat.ne_of_lt (Heap.lt_size (N p hp).1)) trivial hJ ?_ (done _) (ht _)
  rintro i v oI m₁ nw₁ h tk E' hi ⟨t0, rfl⟩ hJ' F' N' off
  exact turn _ _ i _ _ oI m₁ nw₁ h tk E' hi (Int.zero_add _) hJ' F' N' off

theorem for_range2 {r : Addr} {a b : Int} {t u v : Tok} (n : Nat) (J : Nat → (Str → Option Value) → List (Addr × Obj) → Prop) (hh : A.handled = none) (hr : IsRange s.heap r a b 1 t u v) (h0 : -1000 ≤ a) (h1 : b < 1000) (h2 : a < 1000) (hn : b = a + (n : Int)) (F : Fr h₀ L s.heap m) (N : News h₀ L s.heap nw) (hJ : J 0 m nw)
    (turn : ∀ I g i k tk0 oI m₁ nw₁ h tk (E' : Value → Shared → Prop), i < n → k = a + ((i : Nat) : Int) → J i m₁ nw₁ → Fr h₀ L h m₁ → News h₀ L h ((I, oI) :: nw₁) → (∀ p ∈ nw₁, @Ne Nat p.1 I) →
      wpAny (model prog w) A (assign target env (.int k tk0)) (fun _ s₂ => wpAny (model prog w) A (execs body env) (TurnU h₀ L I oI (fun _ => True) (J (i + 1)) { { s with heap := g } with heap := h, toks := tk }) E' s₂) E' { { s with heap := g } with heap := h, toks := tk })
    (done : ∀ g m' nw' h tk, J n m' nw' → Fr h₀ L h m' → News h₀ L h nw' → R (.ok .next) { { s with heap := g } with heap := h, toks := tk })
    (ht : ∀ I v, letOwnedTupleGo target (.ref I) v = pure () := by intro _ _; rfl) :
    wpAny (model prog w) A (pyIter (.ref r)) (fun it s₂ => codeAny (model prog w) A (.forLoop target it body [] env) R s₂) E s := by
  subst hn
  have hsz : Builtin.Range.rangeSize a (a + (n : Int)) 1 = ((n : Nat) : Int) := by rw [rangeSize_one]; split <;> omega
  refine wpAny_pyIter_range hr (range_small2 h0 h2 (by omega) (by omega)) ?_
  refine for_U J (LCg.range_walks hh a n) (fun i h st => ⟨_, st⟩) LCg.range_st (by show IsRangeIter _ _ _ _ _; rw [hsz]; simpa using Heap.get?_push_size _ rfl)
    (F.keeps fun _ _ e => Heap.get?_push_of_some _ e) (N.grown fun _ _ e => Heap.get?_push_of_some _ e) (Nat.ne_of_lt F.ns.lt) (next_is_new F) (fun p hp => Nat.ne_of_lt (Heap.lt_size (N p hp).1)) trivial hJ ?_ (done _) (ht _)
  rintro i v oI m₁ nw₁ h tk E' hi ⟨t0, rfl⟩ hJ' F' N' off
  exact turn _ _ i _ _ oI m₁ nw₁ h tk E' hi rfl hJ' F' N' off
def TurnC (h₀ : Heap) (L : Addr) (m : Str → Option Value) (I : Addr) (oI : Obj) (J : List (Addr × Obj) → Prop) (s₁ : Shared) (f : Flow) (s₂ : Shared) : Prop :=
  f = .next ∧ ∃ h' tk nw', s₂ = { s₁ with heap := h', toks := tk } ∧ Fr h₀ L h' m ∧ News h₀ L h' ((I, oI) :: nw') ∧ (∀ p ∈ nw', @Ne Nat p.1 I) ∧ J nw'
/-- a loop that leaves the frame's own names as they stand -/
theorem for_rangeC {r : Addr} {b : Int} {t u v : Tok} (J : Nat → List (Addr × Obj) → Prop) (hh : A.handled = none) (hr : IsRange s.heap r 0 b 1 t u v) (h0 : 0 ≤ b) (h1 : b < 1000) (F : Fr h₀ L s.heap m) (N : News h₀ L s.heap nw) (hJ : J 0 nw)
    (turn : ∀ I g i k tk0 oI nw₁ h tk (E' : Value → Shared → Prop), i < b.toNat → k = ((i : Nat) : Int) → J i nw₁ → Fr h₀ L h m → News h₀ L h ((I, oI) :: nw₁) → (∀ p ∈ nw₁, @Ne Nat p.1 I) →
      wpAny (model prog w) A (assign target env (.int k tk0)) (fun _ s₂ => wpAny (model prog w) A (execs body env) (TurnC h₀ L m I oI (J (i + 1)) { { s with heap := g } with heap := h, toks := tk }) E' s₂) E' { { s with heap := g } with heap := h, toks := tk })
    (done : ∀ g nw' h tk, J b.toNat nw' → Fr h₀ L h m → News h₀ L h nw' → R (.ok .next) { { s with heap := g } with heap := h, toks := tk })
    (ht : ∀ I v, letOwnedTupleGo target (.ref I) v = pure ()) :
    wpAny (model prog w) A (pyIter (.ref r)) (fun it s₂ => codeAny (model prog w) A (.forLoop target it body [] env) R s₂) E s := by
  refine for_range (fun i m' nw' => m' = m ∧ J i nw') hh hr h0 h1 F N ⟨rfl, hJ⟩ ?_ ?_ ht
  · rintro I g i k tk0 oI m₁ nw₁ h tk E' hi hk ⟨rfl, hJ'⟩ F' N' off
    refine wpAny_mono (turn I g i k tk0 oI nw₁ h tk E' hi hk hJ' F' N' off) (fun _ s₂ q => wpAny_mono q (fun f s₃ q => ?_) fun _ _ e => e) fun _ _ e => e
    obtain ⟨rfl, h', tk', nw', rfl, F2, N2, off2, hJ2⟩ := q
    exact ⟨rfl, h', tk', _, nw', rfl, F2, N2, off2, trivial, rfl, hJ2⟩
  · rintro g m' nw' h tk ⟨rfl, hJ'⟩ F' N'
    exact done g nw' h tk hJ' F' N'
theorem turnC_done {I : Addr} {oI : Obj} {J : List (Addr × Obj) → Prop} {h' : Heap} {tk : Nat} {all : List (Addr × Obj)} (F' : Fr h₀ L h' m) (N' : News h₀ L h' all) (nw' : List (Addr × Obj)) (sub : ∀ p ∈ (I, oI) :: nw', p ∈ all) (off : ∀ p ∈ nw', @Ne Nat p.1 I) (hJ : J nw') :
    Hold (TurnC h₀ L m I oI J s .next { s with heap := h', toks := tk }) := ⟨rfl, h', tk, nw', rfl, F', newsSub N' sub, off, hJ⟩
theorem for_range2C {r : Addr} {a b : Int} {t u v : Tok} (n : Nat) (J : Nat → List (Addr × Obj) → Prop) (hh : A.handled = none) (hr : IsRange s.heap r a b 1 t u v) (h0 : -1000 ≤ a) (h1 : b < 1000) (h2 : a < 1000) (hn : b = a + (n : Int)) (F : Fr h₀ L s.heap m) (N : News h₀ L s.heap nw) (hJ : J 0 nw)
    (turn : ∀ I g i k tk0 oI nw₁ h tk (E' : Value → Shared → Prop), i < n → k = a + ((i : Nat) : Int) → J i nw₁ → Fr h₀ L h m → News h₀ L h ((I, oI) :: nw₁) → (∀ p ∈ nw₁, @Ne Nat p.1 I) →
      wpAny (model prog w) A (assign target env (.int k tk0)) (fun _ s₂ => wpAny (model prog w) A (execs body env) (TurnC h₀ L m I oI (J (i + 1)) { { s with heap := g } with heap := h, toks := tk }) E' s₂) E' { { s with heap := g } with heap := h, toks := tk })
    (done : ∀ g nw' h tk, J n nw' → Fr h₀ L h m → News h₀ L h nw' → R (.ok .next) { { s with heap := g } with heap := h, toks := tk })
    (ht : ∀ I v, letOwnedTupleGo target (.ref I) v = pure ()) :
    wpAny (model prog w) A (pyIter (.ref r)) (fun it s₂ => codeAny (model prog w) A (.forLoop target it body [] env) R s₂) E s := by
  refine for_range2 n (fun i m' nw' => m' = m ∧ J i nw') hh hr h0 h1 h2 hn F N ⟨rfl, hJ⟩ ?_ ?_ ht
  · rintro I g i k tk0 oI m₁ nw₁ h tk E' hi hk ⟨rfl, hJ'⟩ F' N' off
    refine wpAny_mono (turn I g i k tk0 oI nw₁ h tk E' hi hk hJ' F' N' off) (fun _ s₂ q => wpAny_mono q (fun f s₃ q => ?_) fun _ _ e => e) fun _ _ e => e
    obtain ⟨rfl, h', tk', nw', rfl, F2, N2, off2, hJ2⟩ := q
    exact ⟨rfl, h', tk', _, nw', rfl, F2, N2, off2, trivial, rfl, hJ2⟩
  · rintro g m' nw' h tk ⟨rfl, hJ'⟩ F' N'
    exact done g nw' h tk hJ' F' N'
end
theorem off_L5 : True := by
  w_top off
  k_with_none
  (k_with "znz in" => first | with_reducible assumption | with_reducible exact List.mem_cons_self | ((with_reducible refine List.mem_cons_of_mem _ ?_); walk_at "nz in") | ((with_reducible refine List.mem_append_right _ ?_); walk_at "nz in") | ((with_reducible refine List.mem_append_left _ ?_); walk_at "nz in"))
  (k_with "znz hA" => exact rfl)
  (k_with "znz room" => (first | exact room1 (by with_reducible assumption) rfl | exact room2 (by with_reducible assumption) rfl | omega | ((try simp only [depth_under_make, depth_under_kw, depth_in1, depth_deeper]); (try dsimp only [nzA]); (try simp only [recursionLimit]); omega)))
  (k_with "znz units" => (first | exact room1 (by with_reducible assumption) rfl | exact room2 (by with_reducible assumption) rfl | omega | ((try simp only [units_in1, units_deeper, Around.mark_units]); (try dsimp only [nzA]); (try simp only [cLine]); omega)))
  (k_with "znz enter" => first | (refine' code_def ?q5k1 ?q5k2 ?q5k3 ?q5k4 ?q5k5 ?q5kA ?q5kF ?q5kK ?q5k6 ?q5k7 ?q5k8 ?q5k9 ?q5kB ?_ ?q5c2 ?q5c3 ?q5c4 ?q5c5; (case q5kA => walk_at "nz hA"); (case q5kF | q5kK => first | assumption | exact rfl); (case q5k1 | q5k2 | q5k3 | q5k4 | q5k5 => k_asm); (case q5k6 | q5k7 => k_is); (case q5k8 => walk_at "nz room"); (case q5k9 => exact BindsTo.of_eq rfl); (case q5c5 => decide); (case q5kB => exact locs rfl); (case q5c2 | q5c3 | q5c4 => exact rfl); k_whole; intro gpq5 Lpq5 hpq5 FGpq5 Fpq5 Npq5 Bpq5 Xpq5 Tpq5; (try dsimp only); (try k_lift Bpq5); (try k_fold); with_reducible refine anyE fun EE => ?_) | (refine' code_defC ?q5k1 ?q5k2 ?q5k3 ?q5k4 ?q5k5 ?q5kA ?q5kF ?q5kK ?q5k6 ?q5k7 ?q5k8 ?q5k9 ?q5kB ?q5kD ?_ ?q5c2 ?q5c3 ?q5c4; (case q5kA => walk_at "nz hA"); (case q5kF | q5kK => first | assumption | exact rfl); (case q5k1 | q5k2 | q5k3 | q5k4 | q5k5 => k_asm); (case q5k6 | q5k7 => k_is); (case q5k8 => walk_at "nz room"); (case q5k9 => exact BindsTo.of_eq rfl); (case q5kB => exact rfl); (case q5kD => decide +kernel); (case q5c2 | q5c3 | q5c4 => exact rfl); k_whole; intro gpq5 Lpq5 hpq5 tkpq5 cellspq5 FGpq5 Fpq5 Npq5 Ypq5 Bpq5 Xpq5 Tpq5 l1q5; (try k_lt l1q5); k_cells Ypq5; (try simp only [List.cons_append, List.nil_append] at Npq5); (try dsimp only); (try k_lift Bpq5); (try k_fold); with_reducible refine anyE fun EE => ?_))
  (k_with "zeval ListComp" => (k_here; refine Hold.go ?_))
  (k_with "zexec Assign cons ListComp" => (k_here; refine Hold.go ?_))
  (k_with "zcall ref" => (k_here; refine Hold.go ?_))
  (k_with "zexec For" => (k_here; refine Hold.go ?_))
  (k_with "znz fit" => (first | with_reducible assumption | exact fit_row (by with_reducible assumption) (by with_reducible assumption) | exact lt_len (by with_reducible assumption) (by with_reducible assumption) | omega | ((try simp only [List.length_map, List.length_cons, List.length_nil, List.size_toArray]); omega)))
  (k_with "zcall builtin:len" => (k_here; (with_reducible show wpAny _ _ (call (Value.builtin "len") [Value.ref _]) _ _ _); k_dflt (refine' nz_len ?q11N ?q11m ?q11f ?_; (case q11N => k_asm); (case q11m => k_mem); (case q11f => walk_at "nz fit"); k_whole)))
  (k_with "zsubscriptTail" => (k_here; (with_reducible show wpAny _ _ (subscriptTail _ _ (Value.ref _) (Value.int _ _)) _ _ _); k_dflt (refine' nz_item ?q12N ?q12m ?q12a ?q12b ?q12f ?_ ?q12k; (case q12N => k_asm); (case q12m => k_mem); (case q12a | q12b | q12f => walk_at "nz fit"); (case q12k => with_unfolding_all rfl); k_whole); intro vpq12 hvpq12))
  (k_with "zexecs cons" => (k_here; first | k_gentoks | (k_made; walk_at "execs cons") | (with_reducible refine cut_cons fun qk hqk => ?_)))
  (k_with "zQEnd" => (refine' behind_go ?q14h ?_; (case q14h => with_reducible assumption); dsimp only))
  (k_with "zeval Name" => (k_here; (with_reducible show wpAny _ _ (eval (Expr.Name _ _) (compEnvC _ _ _ _)) _ _ _); k_dflt (first | refine LCgL.ld_own (by k_asm) (by k_mem) (by assumption) (by assumption) ?_ | refine kcf_cell (by k_asm) (by rfl) (by k_mem) (by k_asm) ?_ | refine LCgL.ld_global (by k_asm) (by k_asm) (by k_asm) (by k_is) ?_ | refine LCgL.ld_built (by k_asm) (by k_asm) (by k_asm) (by k_is) (by boot_by_name) (by decide) ?_ | refine Hold.go ?_)))
  (k_with "zCompEnd" => (k_here; refine Hold.go ?_))
  (k_with "zCompSrc" => (k_here; refine Hold.go ?_))
  (k_with "znz sub" => first | with_reducible assumption | exact fun _ h => h | (intro p9q22 hp9q22; walk_at "nz in") | (intro p9q22 hp9q22; k_mem))
  (k_with "znz item" => (k_here; (with_reducible show wpAny _ _ (subscriptTail _ _ (Value.ref _) (Value.int _ _)) _ _ _); k_dflt (first | (refine' mat_item ?q23N ?q23m ?q23s ?q23a ?q23b ?q23f ?_ ?q23k; (case q23m => with_reducible assumption); (case q23N => k_asm); (case q23s => walk_at "nz sub"); (case q23a | q23b | q23f => walk_at "nz fit"); (case q23k => with_unfolding_all rfl); k_whole; intro bpq23 rowpq23 hrowpq23 hbrpq23; (try (have hlpq23 := Mat.getRow (by with_reducible assumption) hrowpq23))) | (refine' row_item ?q23N ?q23m ?q23s ?q23a ?q23b ?q23f ?_ ?q23k; (case q23m => with_reducible assumption); (case q23N => k_asm); (case q23s => walk_at "nz sub"); (case q23a | q23b | q23f => walk_at "nz fit"); (case q23k => with_unfolding_all rfl); k_whole; intro ipq23 tpq23 hipq23))))
  (k_with "zsubscriptTail" => walk_at "nz item")
  (k_with "zcall builtin:len" => (k_here; (with_reducible show wpAny _ _ (call (Value.builtin "len") [Value.ref _]) _ _ _); k_dflt (first | (refine' mat_len ?q25N ?q25m ?q25s ?q25f ?_; (case q25m => with_reducible assumption); (case q25N => k_asm); (case q25s => walk_at "nz sub"); (case q25f => walk_at "nz fit"); k_whole) | (refine' row_len ?q25N ?q25m ?q25s ?q25f ?_; (case q25m => with_reducible assumption); (case q25N => k_asm); (case q25s => walk_at "nz sub"); (case q25f => walk_at "nz fit"); k_whole))))
  (k_with "zcompareOp Eq ref ref" => (k_here; k_dflt (refine' mat_eq ?q26N ?q26a ?q26b ?q26c ?q26d ?q26u ?_; (case q26a | q26c => with_reducible assumption); (case q26N => k_asm); (case q26b | q26d => walk_at "nz sub"); (case q26u => walk_at "nz units"); k_whole)))
  (k_with "zcompareOp NotEq ref ref" => (k_here; k_dflt (refine' mat_ne ?q27N ?q27a ?q27b ?q27c ?q27d ?q27u ?_; (case q27a | q27c => with_reducible assumption); (case q27N => k_asm); (case q27b | q27d => walk_at "nz sub"); (case q27u => walk_at "nz units"); k_whole)))
  (k_with "zcall type:list" => (k_here; (with_reducible show wpAny _ _ (call (Value.type _) [Value.ref _]) _ _ _); k_dflt (refine' row_copy ?q29F ?q29N ?q29m ?q29s ?q29f ?_; (case q29m => with_reducible assumption); (case q29F | q29N => k_asm); (case q29s => walk_at "nz sub"); (case q29f => walk_at "nz fit"); k_whole); intro Dpq29 opq29 hpq29 Fpq29 Npq29 l1pq29 hDpq29; (have nzqpq29 := l1pq29); (k_lt l1pq29); (try k_sweep); (try dsimp only)))
  (k_with "zsubscriptTail Name Slice ref ref" => (k_here; (with_reducible show wpAny _ _ (subscriptTail _ (PySem.Expr.Slice none none (some _) _) (Value.ref _) (Value.ref _)) _ _ _); k_dflt (first | (refine' row_rev ?q30F ?q30N ?q30m ?q30s ?q30f ?q30k ?_ ?q30e ?q30t; (case q30m => with_reducible assumption); (case q30F | q30N => k_asm); (case q30s => walk_at "nz sub"); (case q30f => walk_at "nz fit"); (case q30k => exact IsPart.int _ _); (case q30e => with_unfolding_all rfl); (case q30t => kmk_pure)) | (refine' mat_rev ?q30F ?q30N ?q30m ?q30s ?q30f ?q30k ?_ ?q30e ?q30t; (case q30m => with_reducible assumption); (case q30F | q30N => k_asm); (case q30s => walk_at "nz sub"); (case q30f => walk_at "nz fit"); (case q30k => exact IsPart.int _ _); (case q30e => with_unfolding_all rfl); (case q30t => kmk_pure))); intro Dpq30 opq30 hpq30 Fpq30 Npq30 l1pq30 hDpq30; (have nzqpq30 := l1pq30); (k_lt l1pq30); (try k_sweep); (try dsimp only)))
  (k_with "zEltEnd" => (k_here; refine Hold.go ?_))
  (k_with "zTurnC" => (k_here; refine Hold.go ?_))
  (k_with "zpyIter ref" => (k_here; refine Hold.go ?_))
  (k_with "zTurnU" => (k_here; refine Hold.go ?_))
  (k_with "zexec For Name Call cons nil" => (k_here; k_dflt (refine wpAny_For ?_)))
  (k_with "zexec For" => (k_here; k_dflt (refine wpAny_For ?_)))
  (k_with "zcall ref" => (k_here; refine wpAny_call ?_; k_dflt (refine' at_t ?q37B ?q37F ?q37X ?q37T ?q37hf ?q37hk ?q37N ?q37hp ?q37hp0 ?q37hM ?q37hM0 ?q37hMat ?q37hd ?q37hu ?_; (case q37B | q37F | q37X | q37T => k_asm); (case q37hf | q37hk => first | assumption | exact rfl); (case q37N => k_asm); (case q37hp => with_reducible assumption); (case q37hp0 => walk_at "nz sub"); (case q37hM => with_reducible assumption); (case q37hM0 => walk_at "nz sub"); (case q37hMat => with_reducible assumption); (case q37hd => walk_at "nz room"); (case q37hu => walk_at "nz units"); k_whole); intro vpq37 tpq37 hpq37 tkpq37 hvpq37 Fpq37 Npq37; (try k_sweep); (try dsimp only)))
  (k_with "zcall ref" => (k_here; k_dflt (refine' plane_t ?q38B ?q38F ?q38X ?q38T ?q38hf ?q38hk ?q38N ?q38hd ?q38hu ?_; (case q38B | q38F | q38X | q38T => k_asm); (case q38hf | q38hk => first | assumption | exact rfl); (case q38N => k_asm); (case q38hd => walk_at "nz room"); (case q38hu => walk_at "nz units"); k_whole); intro xpq38 tlpq38 hpq38 tkpq38 hxpq38 hapq38 Fpq38 Npq38; (try k_sweep); (try dsimp only)))
  (k_with "znewList" => (k_here; refine Hold.go ?_))
  trivial
section
variable {w : World} {mean : ExcName → Option Value} {mg mb : Str → Option Value} {A₀ : Around} {dp un : Nat} {gd : Option (List Code)} {env : Env} {outer : List Env} {base h₀ : Heap} {L : Addr} {m : Str → Option Value} {s : Shared} {R : Result → Shared → Prop} {news : List (Addr × Obj)}
  (B : Below A₀ base outer h₀) (F : Fr h₀ L s.heap m) (X : (Mine.hd.heap_39 w.params).In h₀) (T : TopH mean mg mb h₀)
  (hf : env.frame = some L) (hk : env.scope.kind = .function)
include B F X T hf hk

def cutM (M : List (List Int)) (W H px py : Int) (w h : Nat) : List (List Int) := (List.range h).map fun (s : Nat) => (List.range w).map fun (t : Nat) => getM M (clampI (py + (s : Int)) H) (clampI (px + (t : Int)) W)
theorem cut_t {x : Addr} {W H px py cw ch : Int} {tx ty tcw tch : Tok} {r : Addr} {M : List (List Int)} {n0 n1 : List (Addr × Obj)} (N : News h₀ L s.heap news) (hp : PlIn n0 x W H r) (hp0 : ∀ p ∈ n0, p ∈ news) (hM : DatIn n1 (.ref r) (matD M)) (hM0 : ∀ p ∈ n1, p ∈ news) (hMat : Mat M W H) (hw0 : 0 ≤ cw) (hw1 : cw < 1000) (hh0 : 0 ≤ ch) (hh1 : ch < 1000) (hd : dp + 4 ≤ 400) (hu : un + 80 ≤ 1000)
    (ret : ∀ (x' r' : Addr) tl h' tk', PlIn tl x' cw ch r' → DatIn tl (.ref r') (matD (cutM M W H px py cw.toNat ch.toNat)) → Apart tl news → Fr h₀ L h' m → News h₀ L h' (tl ++ news) → R (.ok (.ret (.ref x'))) { s with heap := h', toks := tk' }) :
    codeAny (model PySem.Challenge.pw_nz0241_01 w) (nzA dp un gd env outer) (.call (.ref 98) ⟨[.ref x, .int px tx, .int py ty, .int cw tcw, .int ch tch], []⟩) R s := by
  replace hp := hp.mono hp0
  replace hM := hM.mono hM0
  k_dflt (refine' code_defC ?k1 ?k2 ?k3 ?k4 ?k5 ?kA ?kF ?kK ?k6 ?k7 ?k8 ?k9 ?kB ?kD ?_ ?c2 ?c3 ?c4; (case kA => exact rfl); (case kF => first | assumption | exact rfl); (case kK => first | assumption | exact rfl); (case k1 => k_asm); (case k2 => k_asm); (case k3 => k_asm); (case k4 => k_asm); (case k5 => k_asm); (case k6 => k_is); (case k7 => k_is); (case k8 => walk_at "nz room"); (case k9 => exact BindsTo.of_eq rfl); (case kB => exact rfl); (case kD => decide +kernel); (case c2 => exact rfl); (case c3 => exact rfl); (case c4 => exact rfl); k_whole; intro g1 L1 h1 tk1 cells1 FG1 F1 N1 Y1 B1 X1 T1 l1; (try k_lt l1); obtain ⟨oc1, oc2, oc3, oc4, hE, dc1, dc2, dc3, dc4⟩ := CellsAre.four Y1; subst hE; (try simp only [List.cons_append, List.nil_append] at N1); (try dsimp only); (try k_lift B1); (try k_fold); with_reducible refine anyE fun EE => ?_)

  k_steps
  unfold Hold
  k_dflt (refine' newList_K ?k1 ?k2 ?_; (case k1 => k_asm); (case k2 => k_asm); k_whole)
  intro D hD FD ND lD
  k_lt lD
  k_steps
  unfold Hold
  (rename News _ _ _ _ => N9)
  (rename Fr _ _ _ _ => F9)
  obtain ⟨nb, hnb⟩ : ∃ nb, nb = (L1 + 1 + 1 + 1, oc2) :: (L1 + 1 + 1, oc3) :: (L1 + 1, oc4) :: news := ⟨_, rfl⟩
  obtain ⟨b1, b2, b3, b4⟩ : (L1 + 1 + 1 + 1, oc2) ∈ nb ∧ (L1 + 1 + 1, oc3) ∈ nb ∧ (L1 + 1, oc4) ∈ nb ∧ ∀ p ∈ news, p ∈ nb := by
    subst hnb; exact ⟨.head _, .tail _ (.head _), .tail _ (.tail _ (.head _)), fun p hp => .tail _ (.tail _ (.tail _ hp))⟩
  have bD : ∀ p ∈ nb, @Ne Nat p.1 D ∧ @Ne Nat p.1 (L1 + 1 + 1 + 1 + 1) := by
    subst hnb; intro p hp
    have al := allLt_all l1
    simp only [List.mem_cons] at hp
    rcases hp with rfl | rfl | rfl | hp
    · constructor <;> ((try dsimp only); omega)
    · constructor <;> ((try dsimp only); omega)
    · constructor <;> ((try dsimp only); omega)
    · have : @LT.lt Nat _ p.1 L1 := al p hp; constructor <;> ((try dsimp only); omega)
  rw [← hnb] at N9
  have hp' := hp.mono b4
  have hM' := hM.mono b4
  k_dflt (refine' for_rangeC (fun i nw' => ∃ (ys : List Value) (k : Nat) (oS : Obj) (tl : List (Addr × Obj)), nw' = (D, listOf ys.toArray k) :: (L1 + 1 + 1 + 1 + 1, oS) :: (tl ++ nb) ∧ (∃ v, oS.data = .cell v) ∧ ys.length = i ∧
    DatAll tl ys ((List.range i).map fun (s : Nat) => rowD ((List.range cw.toNat).map fun (t : Nat) => getM M (clampI (py + (s : Int)) H) (clampI (px + (t : Int)) W))) ∧ Apart tl ((D, oc1) :: (L1 + 1 + 1 + 1 + 1, oc1) :: nb)) ?hh ?hr ?h0 ?h1 ?F ?N ?hJ ?turn ?done ?ht)
  case F => exact F9
  case N => exact N9
  case ht => exact fun _ _ => rfl
  case hJ => exact ⟨[], 0, oc1, [], rfl, ⟨_, dc1⟩, rfl, .nil, Apart.nil⟩
  case hh => exact rfl
  case hr => assumption
  case h0 => omega
  case h1 => omega
  case turn =>
    clear N9 F9
    intro I g i k tk0 oI nw₁ h tk E' hi hk9 hJ F' N' off
    obtain ⟨ys, kk, oS, tl, rfl, ⟨vS, hvS⟩, hyl, hds, hap⟩ := hJ
    have hz9 : ys.length ≤ 16777216 := app8 hyl hi (by omega)
    have c1 : ∀ p ∈ tl ++ nb, @Ne Nat p.1 D := fun p hp => (List.mem_append.mp hp).elim (fun h => hap p h _ (.head _)) fun h => (bD p h).1
    have c2 : ∀ p ∈ tl ++ nb, @Ne Nat p.1 (L1 + 1 + 1 + 1 + 1) := fun p hp => (List.mem_append.mp hp).elim (fun h => hap p h _ (.tail _ (.head _))) fun h => (bD p h).2
    have c3 : @Ne Nat D I := off _ (.head _)
    have c4 : @Ne Nat (L1 + 1 + 1 + 1 + 1) I := off _ (.tail _ (.head _))
    have c3' := Ne.symm c3
    have c4' := Ne.symm c4
    obtain ⟨dx, e1, e2, e3, e4, e5, e6, e7, e8, e9, hx, hdx⟩ := id hp'
    k_steps
    unfold Hold
    k_dflt (refine LCg.ListComp_U (F₀ := by k_asm) (by with_unfolding_all rfl) (by decide) (by rfl) (by decide) (by rfl) ?_)
    k_steps
    unfold Hold
    (rename News _ _ _ _ => N8)
    k_dflt (refine src_range (fun t => .int (getM M (clampI (py + (i : Int)) H) (clampI (px + (t : Int)) W))) (by rfl) (by k_asm) N8 (by assumption) (by omega) (by omega) ?_ ?_)
    · intro g2 i2 tl2 k2 tk2 I2 oI2 C2 oC2 D2 oD2 m2 h2 tk3 E2 hi2 hk2 hC2 hx2 F2 N2 off2 ne2 ha2
      k_steps
      (rename (_ = getM _ _ _) => hv9)
      exact Hold.out (eltEnd_int (by k_asm) (by k_asm) (by rw [hv9, hk9, hk2]))
    · intro g2 ys2 tl2 hyl2 hds2 hap2
      intro D2 h2 tk2 F2 N2 off2
      have q1 : @Ne Nat D2 I := off1_at off2 (I, oI) (List.mem_append_right _ (.head _))
      have q2 : @Ne Nat D2 D := off1_at off2 _ (List.mem_append_right _ (.tail _ (.head _)))
      have q3 : @Ne Nat D2 (L1 + 1 + 1 + 1 + 1) := off1_at off2 _ (List.mem_append_right _ (.tail _ (.tail _ (.head _))))
      have q4 : ∀ p ∈ tl ++ nb, @Ne Nat D2 p.1 := fun p hp => off1_at off2 p (List.mem_append_right _ (.tail _ (.tail _ (.tail _ hp))))
      replace N2 := newsDrop N2
      k_steps
      (rename News _ _ _ _ => N7)
      (rename Fr _ _ _ _ => F7)
      rw [List.push_toArray] at N7
      obtain ⟨oS9, N6, dS9⟩ : ∃ o9, News g1 L1 _ ((D2, LCg.lst ys2) :: (I, oI) :: (D, listOf (ys ++ [Value.ref D2]).toArray (kk + 1)) :: (L1 + 1 + 1 + 1 + 1, o9) :: (tl ++ nb)) ∧ ∃ v, o9.data = .cell v := ⟨_, N7, _, by assumption⟩
      refine turnC_done F7 N6 ((D, listOf (ys ++ [Value.ref D2]).toArray (kk + 1)) :: (L1 + 1 + 1 + 1 + 1, oS9) :: (((D2, LCg.lst ys2) :: tl) ++ nb)) ?_ ?_ ⟨ys ++ [Value.ref D2], kk + 1, oS9, (D2, LCg.lst ys2) :: tl, rfl, dS9, by rw [List.length_append, hyl]; rfl, ?_, ?_⟩
      · intro p hp
        simp only [List.mem_cons, List.mem_append] at hp ⊢
        rcases hp with h | h | h | (h | h) | h <;> simp [h]
      · refine List.forall_mem_cons.mpr ⟨c3, List.forall_mem_cons.mpr ⟨c4, fun p hp => ?_⟩⟩
        rcases List.mem_append.mp hp with hp | h
        · rcases List.mem_cons.mp hp with rfl | h
          · exact q1
          · exact off p (.tail _ (.tail _ (List.mem_append_left _ h)))
        · exact off p (.tail _ (.tail _ (List.mem_append_right _ h)))
      · rw [range_map_succ]
        refine DatAll.append (datAll_up hds fun p hp => .tail _ hp) (.cons (DatIn.list (.head _) ?_) .nil)
        exact datAll_free (nw := tl2) (by rw [List.map_map]; exact hds2)
      · refine Apart.cons (List.forall_mem_cons.mpr ⟨q2, List.forall_mem_cons.mpr ⟨q3, fun q hq => q4 q (List.mem_append_right _ hq)⟩⟩) hap
  case done =>
    intro g2 nw' h2 tk2 hJ F2 N2
    obtain ⟨ys, kk, oS, tl, rfl, ⟨vS, hvS⟩, hyl, hds, hap⟩ := hJ
    k_steps
    (rename PlIn _ _ _ _ _ => hx9)
    (rename News _ _ _ _ => N7)
    (rename Fr _ _ _ _ => F7)
    (rename Apart _ _ => ha9)
    refine ret _ D (_ ++ ((D, listOf ys.toArray kk) :: tl)) _ _ (hx9.mono fun p hp => List.mem_append_left _ hp) ?_ ?_ F7 (newsSub N7 fun p hp => ?_)
    · refine DatIn.mono (fun p hp => List.mem_append_right _ hp) (DatIn.list (.head _) (datAll_up ?_ fun p hp => .tail _ hp))
      unfold cutM
      rw [List.map_map]
      exact hds
    · refine Apart.app (fun p hp q hq => ha9 p hp q (.tail _ (.tail _ (List.mem_append_right _ (b4 q hq))))) (Apart.cons (fun q hq => Ne.symm (bD q (b4 q hq)).1) fun p hp q hq => hap p hp q (.tail _ (.tail _ (b4 q hq))))
    · simp only [List.mem_append, List.mem_cons] at hp ⊢
      rcases hp with (h | h | h) | h
      · exact .inl h
      · exact .inr (.inl h)
      · exact .inr (.inr (.inr (.inl h)))
      · exact .inr (.inr (.inr (.inr (b4 p h))))

end
theorem boolsAre_of {nw : List (Addr × Obj)} : ∀ {vs : List Value} {bs : List Bool}, DatAll nw vs (bs.map .bool) → LSm.BoolsAre vs bs
  | _, [], h => by cases h; exact .nil
  | _, _ :: _, h => by
    cases h with
    | cons a b => cases a; exact .cons _ (boolsAre_of b)
section
variable {prog : Program} {w : World} {A : Around} {E : Value → Shared → Prop} {s : Shared} {h₀ : Heap} {L : Addr} {news n1 : List (Addr × Obj)} {a b : Addr} {M1 : List (List Int)} {Q : Value → Shared → Prop}
theorem mat_eqNil {k : Nat} (N : News h₀ L s.heap news) (h1 : DatIn n1 (.ref a) (matD M1)) (s1 : ∀ p ∈ n1, p ∈ news) (h2 : (b, listOf ([] : List Value).toArray k) ∈ news) (hu : A.units + 64 < cLine) (h : Q (.bool (decide (M1 = []))) s) :
    wpAny (model prog w) A (compareOp .Eq (.ref a) (.ref b)) Q E s :=
  mat_eq N h1 s1 (n2 := news) (M2 := []) (DatIn.list h2 .nil) (fun _ h => h) hu h
theorem mat_neNil {k : Nat} (N : News h₀ L s.heap news) (h1 : DatIn n1 (.ref a) (matD M1)) (s1 : ∀ p ∈ n1, p ∈ news) (hne : M1 ≠ []) (h2 : (b, listOf ([] : List Value).toArray k) ∈ news) (hu : A.units + 64 < cLine) (h : Q (.bool false) s) :
    wpAny (model prog w) A (compareOp .Eq (.ref a) (.ref b)) Q E s :=
  mat_eqNil N h1 s1 h2 hu (by rw [decide_eq_false hne]; exact h)
theorem any_at {m : Str → Option Value} {vs : List Value} {bs : List Bool} {n : Nat} {tl : List (Addr × Obj)} (F : Fr h₀ L s.heap m) (N : News h₀ L s.heap news) (hh : A.handled = none) (hm : (a, listOf vs.toArray n) ∈ news) (hb : DatAll tl vs (bs.map .bool))
    (h : ∀ h' tk, Fr h₀ L h' m → News h₀ L h' news → Q (.bool (bs.any id)) { s with heap := h', toks := tk }) : wpAny (model prog w) A (call (.builtin "any") [.ref a]) Q E s :=
  LSm.any_bools F N hh ⟨_, (N _ hm).1, rfl, n, rfl⟩ (boolsAre_of hb) h
end
theorem Mat.ne {M : List (List Int)} {W H : Int} (h : Mat M W H) : M ≠ [] := by
  rintro rfl
  have := h.len
  have := h.h1
  simp at *
  omega
theorem off_L6 : True := by
  w_top off
  k_with_none
  (k_with "znz in" => first | with_reducible assumption | with_reducible exact List.mem_cons_self | ((with_reducible refine List.mem_cons_of_mem _ ?_); walk_at "nz in") | ((with_reducible refine List.mem_append_right _ ?_); walk_at "nz in") | ((with_reducible refine List.mem_append_left _ ?_); walk_at "nz in"))
  (k_with "znz hA" => exact rfl)
  (k_with "znz room" => (first | exact room1 (by with_reducible assumption) rfl | exact room2 (by with_reducible assumption) rfl | omega | ((try simp only [depth_under_make, depth_under_kw, depth_in1, depth_deeper]); (try dsimp only [nzA]); (try simp only [recursionLimit]); omega)))
  (k_with "znz units" => (first | exact room1 (by with_reducible assumption) rfl | exact room2 (by with_reducible assumption) rfl | omega | ((try simp only [units_in1, units_deeper, Around.mark_units]); (try dsimp only [nzA]); (try simp only [cLine]); omega)))
  (k_with "znz enter" => first | (refine' code_def ?q5k1 ?q5k2 ?q5k3 ?q5k4 ?q5k5 ?q5kA ?q5kF ?q5kK ?q5k6 ?q5k7 ?q5k8 ?q5k9 ?q5kB ?_ ?q5c2 ?q5c3 ?q5c4 ?q5c5; (case q5kA => walk_at "nz hA"); (case q5kF | q5kK => first | assumption | exact rfl); (case q5k1 | q5k2 | q5k3 | q5k4 | q5k5 => k_asm); (case q5k6 | q5k7 => k_is); (case q5k8 => walk_at "nz room"); (case q5k9 => exact BindsTo.of_eq rfl); (case q5c5 => decide); (case q5kB => exact locs rfl); (case q5c2 | q5c3 | q5c4 => exact rfl); k_whole; intro gpq5 Lpq5 hpq5 FGpq5 Fpq5 Npq5 Bpq5 Xpq5 Tpq5; (try dsimp only); (try k_lift Bpq5); (try k_fold); with_reducible refine anyE fun EE => ?_) | (refine' code_defC ?q5k1 ?q5k2 ?q5k3 ?q5k4 ?q5k5 ?q5kA ?q5kF ?q5kK ?q5k6 ?q5k7 ?q5k8 ?q5k9 ?q5kB ?q5kD ?_ ?q5c2 ?q5c3 ?q5c4; (case q5kA => walk_at "nz hA"); (case q5kF | q5kK => first | assumption | exact rfl); (case q5k1 | q5k2 | q5k3 | q5k4 | q5k5 => k_asm); (case q5k6 | q5k7 => k_is); (case q5k8 => walk_at "nz room"); (case q5k9 => exact BindsTo.of_eq rfl); (case q5kB => exact rfl); (case q5kD => decide +kernel); (case q5c2 | q5c3 | q5c4 => exact rfl); k_whole; intro gpq5 Lpq5 hpq5 tkpq5 cellspq5 FGpq5 Fpq5 Npq5 Ypq5 Bpq5 Xpq5 Tpq5 l1q5; (try k_lt l1q5); k_cells Ypq5; (try simp only [List.cons_append, List.nil_append] at Npq5); (try dsimp only); (try k_lift Bpq5); (try k_fold); with_reducible refine anyE fun EE => ?_))
  (k_with "zeval ListComp" => (k_here; refine Hold.go ?_))
  (k_with "zexec Assign cons ListComp" => (k_here; refine Hold.go ?_))
  (k_with "zcall ref" => (k_here; refine Hold.go ?_))
  (k_with "zexec For" => (k_here; refine Hold.go ?_))
  (k_with "znz fit" => (first | with_reducible assumption | exact fit_row (by with_reducible assumption) (by with_reducible assumption) | exact lt_len (by with_reducible assumption) (by with_reducible assumption) | omega | ((try simp only [List.length_map, List.length_cons, List.length_nil, List.size_toArray]); omega)))
  (k_with "zcall builtin:len" => (k_here; (with_reducible show wpAny _ _ (call (Value.builtin "len") [Value.ref _]) _ _ _); k_dflt (refine' nz_len ?q11N ?q11m ?q11f ?_; (case q11N => k_asm); (case q11m => k_mem); (case q11f => walk_at "nz fit"); k_whole)))
  (k_with "zsubscriptTail" => (k_here; (with_reducible show wpAny _ _ (subscriptTail _ _ (Value.ref _) (Value.int _ _)) _ _ _); k_dflt (refine' nz_item ?q12N ?q12m ?q12a ?q12b ?q12f ?_ ?q12k; (case q12N => k_asm); (case q12m => k_mem); (case q12a | q12b | q12f => walk_at "nz fit"); (case q12k => with_unfolding_all rfl); k_whole); intro vpq12 hvpq12))
  (k_with "zexecs cons" => (k_here; first | k_gentoks | (k_made; walk_at "execs cons") | (with_reducible refine cut_cons fun qk hqk => ?_)))
  (k_with "zQEnd" => (refine' behind_go ?q14h ?_; (case q14h => with_reducible assumption); dsimp only))
  (k_with "zeval Name" => (k_here; (with_reducible show wpAny _ _ (eval (Expr.Name _ _) (compEnvC _ _ _ _)) _ _ _); k_dflt (first | refine LCgL.ld_own (by k_asm) (by k_mem) (by assumption) (by assumption) ?_ | refine kcf_cell (by k_asm) (by rfl) (by k_mem) (by k_asm) ?_ | refine LCgL.ld_global (by k_asm) (by k_asm) (by k_asm) (by k_is) ?_ | refine LCgL.ld_built (by k_asm) (by k_asm) (by k_asm) (by k_is) (by boot_by_name) (by decide) ?_ | refine Hold.go ?_)))
  (k_with "zCompEnd" => (k_here; refine Hold.go ?_))
  (k_with "zCompSrc" => (k_here; refine Hold.go ?_))
  (k_with "znz sub" => first | with_reducible assumption | exact fun _ h => h | (intro p9q22 hp9q22; walk_at "nz in") | (intro p9q22 hp9q22; k_mem))
  (k_with "znz item" => (k_here; (with_reducible show wpAny _ _ (subscriptTail _ _ (Value.ref _) (Value.int _ _)) _ _ _); k_dflt (first | (refine' mat_item ?q23N ?q23m ?q23s ?q23a ?q23b ?q23f ?_ ?q23k; (case q23m => with_reducible assumption); (case q23N => k_asm); (case q23s => walk_at "nz sub"); (case q23a | q23b | q23f => walk_at "nz fit"); (case q23k => with_unfolding_all rfl); k_whole; intro bpq23 rowpq23 hrowpq23 hbrpq23; (try (have hlpq23 := Mat.getRow (by with_reducible assumption) hrowpq23))) | (refine' row_item ?q23N ?q23m ?q23s ?q23a ?q23b ?q23f ?_ ?q23k; (case q23m => with_reducible assumption); (case q23N => k_asm); (case q23s => walk_at "nz sub"); (case q23a | q23b | q23f => walk_at "nz fit"); (case q23k => with_unfolding_all rfl); k_whole; intro ipq23 tpq23 hipq23))))
  (k_with "zsubscriptTail" => walk_at "nz item")
  (k_with "zcall builtin:len" => (k_here; (with_reducible show wpAny _ _ (call (Value.builtin "len") [Value.ref _]) _ _ _); k_dflt (first | (refine' mat_len ?q25N ?q25m ?q25s ?q25f ?_; (case q25m => with_reducible assumption); (case q25N => k_asm); (case q25s => walk_at "nz sub"); (case q25f => walk_at "nz fit"); k_whole) | (refine' row_len ?q25N ?q25m ?q25s ?q25f ?_; (case q25m => with_reducible assumption); (case q25N => k_asm); (case q25s => walk_at "nz sub"); (case q25f => walk_at "nz fit"); k_whole))))
  (k_with "zcompareOp Eq ref ref" => (k_here; k_dflt (refine' mat_eq ?q26N ?q26a ?q26b ?q26c ?q26d ?q26u ?_; (case q26a | q26c => with_reducible assumption); (case q26N => k_asm); (case q26b | q26d => walk_at "nz sub"); (case q26u => walk_at "nz units"); k_whole)))
  (k_with "zcompareOp NotEq ref ref" => (k_here; k_dflt (refine' mat_ne ?q27N ?q27a ?q27b ?q27c ?q27d ?q27u ?_; (case q27a | q27c => with_reducible assumption); (case q27N => k_asm); (case q27b | q27d => walk_at "nz sub"); (case q27u => walk_at "nz units"); k_whole)))
  (k_with "zcall type:list" => (k_here; (with_reducible show wpAny _ _ (call (Value.type _) [Value.ref _]) _ _ _); k_dflt (refine' row_copy ?q29F ?q29N ?q29m ?q29s ?q29f ?_; (case q29m => with_reducible assumption); (case q29F | q29N => k_asm); (case q29s => walk_at "nz sub"); (case q29f => walk_at "nz fit"); k_whole); intro Dpq29 opq29 hpq29 Fpq29 Npq29 l1pq29 hDpq29; (have nzqpq29 := l1pq29); (k_lt l1pq29); (try k_sweep); (try dsimp only)))
  (k_with "zsubscriptTail Name Slice ref ref" => (k_here; (with_reducible show wpAny _ _ (subscriptTail _ (PySem.Expr.Slice none none (some _) _) (Value.ref _) (Value.ref _)) _ _ _); k_dflt (first | (refine' row_rev ?q30F ?q30N ?q30m ?q30s ?q30f ?q30k ?_ ?q30e ?q30t; (case q30m => with_reducible assumption); (case q30F | q30N => k_asm); (case q30s => walk_at "nz sub"); (case q30f => walk_at "nz fit"); (case q30k => exact IsPart.int _ _); (case q30e => with_unfolding_all rfl); (case q30t => kmk_pure)) | (refine' mat_rev ?q30F ?q30N ?q30m ?q30s ?q30f ?q30k ?_ ?q30e ?q30t; (case q30m => with_reducible assumption); (case q30F | q30N => k_asm); (case q30s => walk_at "nz sub"); (case q30f => walk_at "nz fit"); (case q30k => exact IsPart.int _ _); (case q30e => with_unfolding_all rfl); (case q30t => kmk_pure))); intro Dpq30 opq30 hpq30 Fpq30 Npq30 l1pq30 hDpq30; (have nzqpq30 := l1pq30); (k_lt l1pq30); (try k_sweep); (try dsimp only)))
  (k_with "zEltEnd" => (k_here; refine Hold.go ?_))
  (k_with "zTurnC" => (k_here; refine Hold.go ?_))
  (k_with "zpyIter ref" => (k_here; refine Hold.go ?_))
  (k_with "zTurnU" => (k_here; refine Hold.go ?_))
  (k_with "zexec For Name Call cons nil" => (k_here; k_dflt (refine wpAny_For ?_)))
  (k_with "zexec For" => (k_here; k_dflt (refine wpAny_For ?_)))
  (k_with "zcompareOp Eq ref ref" => (k_here; k_dflt (refine' mat_eqNil ?q40N ?q40a ?q40b ?q40c ?q40u ?_; (case q40a => with_reducible assumption); (case q40N => k_asm); (case q40b => walk_at "nz sub"); (case q40c => k_mem); (case q40u => walk_at "nz units"); k_whole)))
  (k_with "zcompareOp Eq ref ref" => (k_here; k_dflt (refine' mat_neNil ?q41N ?q41a ?q41b ?q41e ?q41c ?q41u ?_; (case q41a | q41e => with_reducible assumption); (case q41N => k_asm); (case q41b => walk_at "nz sub"); (case q41c => k_mem); (case q41u => walk_at "nz units"); k_whole)))
  (k_with "zcompareOp Eq ref ref" => (k_here; k_dflt (refine' mat_eq ?q42N ?q42a ?q42b ?q42c ?q42d ?q42u ?_; (case q42a | q42c => with_reducible assumption); (case q42N => k_asm); (case q42b | q42d => walk_at "nz sub"); (case q42u => walk_at "nz units"); k_whole)))
  (k_with "zexec Raise" => (k_here; refine Hold.go ?_))
  (k_with "znz dec" => ((try simp only [beq_iff_eq, bne_iff_ne, decide_eq_true_eq, ne_eq, Bool.not_eq_true', Bool.not_eq_true]); omega))
  (k_with "zite" => (k_here; k_dflt (first | refine ite_pos (by walk_at "nz dec") ?_ | refine ite_neg (by walk_at "nz dec") ?_)))
  (k_with "zcall ref" => (k_here; refine wpAny_call ?_; k_dflt (refine' at_t ?q46B ?q46F ?q46X ?q46T ?q46hf ?q46hk ?q46N ?q46hp ?q46hp0 ?q46hM ?q46hM0 ?q46hMat ?q46hd ?q46hu ?_; (case q46B | q46F | q46X | q46T => k_asm); (case q46hf | q46hk => first | assumption | exact rfl); (case q46N => k_asm); (case q46hp => with_reducible assumption); (case q46hp0 => walk_at "nz sub"); (case q46hM => with_reducible assumption); (case q46hM0 => walk_at "nz sub"); (case q46hMat => with_reducible assumption); (case q46hd => walk_at "nz room"); (case q46hu => walk_at "nz units"); k_whole); intro vpq46 tpq46 hpq46 tkpq46 hvpq46 Fpq46 Npq46; (try k_sweep); (try dsimp only)))
  (k_with "zcall ref" => (k_here; k_dflt (refine' plane_t ?q47B ?q47F ?q47X ?q47T ?q47hf ?q47hk ?q47N ?q47hd ?q47hu ?_; (case q47B | q47F | q47X | q47T => k_asm); (case q47hf | q47hk => first | assumption | exact rfl); (case q47N => k_asm); (case q47hd => walk_at "nz room"); (case q47hu => walk_at "nz units"); k_whole); intro xpq47 tlpq47 hpq47 tkpq47 hxpq47 hapq47 Fpq47 Npq47; (try k_sweep); (try dsimp only)))
  trivial
section
variable {w : World} {mean : ExcName → Option Value} {mg mb : Str → Option Value} {A₀ : Around} {dp un : Nat} {gd : Option (List Code)} {env : Env} {outer : List Env} {base h₀ : Heap} {L : Addr} {m : Str → Option Value} {s : Shared} {R : Result → Shared → Prop} {news : List (Addr × Obj)}
  (B : Below A₀ base outer h₀) (F : Fr h₀ L s.heap m) (X : (Mine.hd.heap_39 w.params).In h₀) (T : TopH mean mg mb h₀)
  (hf : env.frame = some L) (hk : env.scope.kind = .function)
include B F X T hf hk

theorem plane_of_t {r : Addr} {M : List (List Int)} {W H : Int} {n1 : List (Addr × Obj)} (N : News h₀ L s.heap news) (hM : DatIn n1 (.ref r) (matD M)) (hM0 : ∀ p ∈ n1, p ∈ news) (hMat : Mat M W H) (hd : dp + 4 ≤ 400) (hu : un + 80 ≤ 1000)
    (ret : ∀ (x' r' : Addr) tl h' tk', PlIn tl x' W H r' → DatIn tl (.ref r') (matD M) → Apart tl news → Fr h₀ L h' m → News h₀ L h' (tl ++ news) → R (.ok (.ret (.ref x'))) { s with heap := h', toks := tk' }) :
    codeAny (model PySem.Challenge.pw_nz0241_01 w) (nzA dp un gd env outer) (.call (.ref 93) ⟨[.ref r], []⟩) R s := by
  replace hM := hM.mono hM0
  obtain ⟨q1, q2, q3, q4, q5, q6⟩ := id hMat
  have hne := hMat.ne
  k_dflt (refine' code_defC ?k1 ?k2 ?k3 ?k4 ?k5 ?kA ?kF ?kK ?k6 ?k7 ?k8 ?k9 ?kB ?kD ?_ ?c2 ?c3 ?c4; (case kA => exact rfl); (case kF => first | assumption | exact rfl); (case kK => first | assumption | exact rfl); (case k1 => k_asm); (case k2 => k_asm); (case k3 => k_asm); (case k4 => k_asm); (case k5 => k_asm); (case k6 => k_is); (case k7 => k_is); (case k8 => walk_at "nz room"); (case k9 => exact BindsTo.of_eq rfl); (case kB => exact rfl); (case kD => decide +kernel); (case c2 => exact rfl); (case c3 => exact rfl); (case c4 => exact rfl); k_whole; intro g1 L1 h1 tk1 cells1 FG1 F1 N1 Y1 B1 X1 T1 l1; (try k_lt l1); obtain ⟨oc1, hE, dc1⟩ := CellsAre.one Y1; subst hE; (try simp only [List.cons_append, List.nil_append] at N1); (try dsimp only); (try k_lift B1); (try k_fold); with_reducible refine anyE fun EE => ?_)

  k_steps
  unfold Hold
  k_dflt (refine LCg.ListComp_U (F₀ := by k_asm) (by with_unfolding_all rfl) (by decide) (by rfl) (by decide) (by rfl) ?_)
  k_steps
  unfold Hold
  (rename News _ _ _ _ => N8)
  k_dflt (refine src_mat (fun _ => Dat.bool false) (by rfl) (by k_asm) N8 hM (by walk_at "nz sub") (by omega) ?_ ?_)

  · intro g2 i2 tl2 b2 row2 I2 oI2 C2 oC2 D2 oD2 m2 h2 tk3 E2 hrow2 hb2 hC2 hx2 F2 N2 off2 ne2 ha2
    have hl2 := hMat.getRow hrow2
    k_steps
    (rename (((List.length _ : Nat) : Int) = W) => hl9)
    exact Hold.out (eltEnd_bool (by k_asm) (by k_asm) (by simp [hl2, hl9]))
  · intro g2 ys2 tl2 hyl2 hds2 hap2
    intro D2 h2 tk2 F2 N2 off2
    k_steps
    k_dflt (refine any_at (bs := M.map fun _ => false) (by k_asm) (by k_asm) (by rfl) (.head _) (by rw [List.map_map]; exact hds2) ?_)
    intro h3 tk3 F3 N3
    rw [show ((M.map fun _ => false).any id) = false by simp]
    replace N3 := newsRest N3
    k_steps
    unfold Hold
    k_dflt (refine LCg.ListComp_U (F₀ := by k_asm) (by with_unfolding_all rfl) (by decide) (by rfl) (by decide) (by rfl) ?_)
    k_steps
    unfold Hold
    (rename News _ _ _ _ => N8)
    k_dflt (refine src_mat (fun row => rowD row) (by rfl) (by k_asm) N8 hM (by walk_at "nz sub") (by omega) ?_ ?_)
    · intro g2 i2 tl2 b2 row2 I2 oI2 C2 oC2 D2 oD2 m2 h2 tk3 E2 hrow2 hb2 hC2 hx2 F2 N2 off2 ne2 ha2
      have hl2 := hMat.getRow hrow2
      k_steps
      exact Hold.out (eltEnd_one (by k_asm) (by k_asm) (by assumption) (by assumption))
    · intro g2 ys2 tl2 hyl2 hds2 hap2
      intro D2 h2 tk2 F2 N2 off2
      obtain ⟨hD2, hA2⟩ := comp_fin hds2 hap2 off2
      k_steps
      (rename PlIn _ _ _ _ _ => hx9)
      (rename News _ _ _ _ => N7)
      (rename Fr _ _ _ _ => F7)
      (rename Apart _ _ => ha9)
      (rename (((List.length _ : Nat) : Int) = W) => hl9)
      rw [hl9, q5] at hx9
      refine ret _ D2 (_ ++ ((D2, LCg.lst ys2) :: tl2)) _ _ (hx9.mono fun p hp => List.mem_append_left _ hp) (hD2.mono fun p hp => List.mem_append_right _ hp) (Apart.app (fun p hp q hq => ha9 p hp q (.tail _ (List.mem_append_right _ (.tail _ (.tail _ hq))))) fun p hp q hq => hA2 p hp q (.tail _ (.tail _ hq))) F7 (newsSub N7 fun p hp => ?_)
      simp only [List.mem_append, List.mem_cons] at hp ⊢
      rcases hp with (h | h | h) | h <;> simp [h]

end
-- the plain words
def wTr (wd : Str) : Bool := [Str.ofString "right", Str.ofString "left", Str.ofString "swap", Str.ofString "cross"].any fun x => x == wd
def wMi (wd : Str) : Bool := [Str.ofString "mirror", Str.ofString "back", Str.ofString "left", Str.ofString "cross"].any fun x => x == wd
def wFl (wd : Str) : Bool := [Str.ofString "flip", Str.ofString "back", Str.ofString "right", Str.ofString "cross"].any fun x => x == wd
def spotF (wd : Str) (px py W H : Int) : Int × Int :=
  (if wMi wd = true then W - 1 - (if wTr wd = true then py else px) else if wTr wd = true then py else px,
   if wFl wd = true then H - 1 - (if wTr wd = true then px else py) else if wTr wd = true then px else py)
section
variable {prog : Program} {w : World} {A : Around} {E : Value → Shared → Prop} {s : Shared} {h₀ : Heap} {L : Addr} {m : Str → Option Value} {env : Env} {Q : Value → Shared → Prop} {x : Str} {pos : Pos} {v : Value}
theorem nz_local (F : Fr h₀ L s.heap m) (hv : m x = some v) (h : Q v s) (hL : env.locals = L) (hk : env.scope.kind = .function) (hl : env.kindOf x = some .local) (hd : (x == ("__debug__" : Str)) = false) : wpAny (model prog w) A (eval (.Name x pos) env) Q E s :=
  wpAny_Name (wpAny_loadName_local hk hl (hL ▸ F.ns) hv h) hd
theorem turnU_done {I : Addr} {oI : Obj} {J : (Str → Option Value) → List (Addr × Obj) → Prop} {h' : Heap} {tk : Nat} {all : List (Addr × Obj)} (F' : Fr h₀ L h' m) (N' : News h₀ L h' all) (nw' : List (Addr × Obj)) (sub : ∀ p ∈ (I, oI) :: nw', p ∈ all) (off : ∀ p ∈ nw', @Ne Nat p.1 I) (hJ : J m nw') :
    Hold (TurnU h₀ L I oI (fun _ => True) J s .next { s with heap := h', toks := tk }) := ⟨rfl, h', tk, m, nw', rfl, F', newsSub N' sub, off, trivial, hJ⟩
end
theorem news_drop3 {h₀ h : Heap} {L : Addr} {d a b c : Addr × Obj} {l : List (Addr × Obj)} (N : News h₀ L h (d :: a :: b :: c :: l)) : News h₀ L h (d :: l) := newsSub N fun p hp => by
  rcases List.mem_cons.mp hp with rfl | hp
  · exact .head _
  · exact .tail _ (.tail _ (.tail _ (.tail _ hp)))
theorem datIn_pair {nw : List (Addr × Obj)} {v : Value} {i j : Int} (h : DatIn nw v (.tuple [.int i, .int j])) : ∃ a n t u, v = .ref a ∧ (a, ({ cls := .type "tuple", data := .seq [Value.int i t, .int j u].toArray n } : Obj)) ∈ nw := by
  cases h with
  | tuple hm hd =>
    cases hd with
    | cons a b =>
      cases b with
      | cons c d => cases a; cases c; cases d; exact ⟨_, _, _, _, rfl, hm⟩
theorem spotF_in {wd : Str} {W H x y : Int} (hx : 0 ≤ x ∧ x < if wTr wd = true then H else W) (hy : 0 ≤ y ∧ y < if wTr wd = true then W else H) :
    (0 ≤ (spotF wd x y W H).1 ∧ (spotF wd x y W H).1 < W) ∧ 0 ≤ (spotF wd x y W H).2 ∧ (spotF wd x y W H).2 < H := by
  unfold spotF
  cases h1 : wTr wd <;> cases h2 : wMi wd <;> cases h3 : wFl wd <;> simp_all <;> omega
theorem news_drop2 {h₀ h : Heap} {L : Addr} {a b : Addr × Obj} {t u l : List (Addr × Obj)} (N : News h₀ L h (a :: (t ++ b :: (u ++ l)))) : News h₀ L h (a :: l) := newsSub N fun p hp => by
  rcases List.mem_cons.mp hp with rfl | hp
  · exact .head _
  · exact .tail _ (List.mem_append_right _ (.tail _ (List.mem_append_right _ hp)))
theorem mapRange_at {α : Type} {f : Nat → α} {n i : Nat} {d : α} (h : ((List.range n).map f)[i]? = some d) : i < n ∧ d = f i := by
  rw [List.getElem?_map] at h
  obtain ⟨j, hj, rfl⟩ := Option.map_eq_some_iff.mp h
  obtain ⟨a, b⟩ := List.getElem?_eq_some_iff.mp hj
  simp at a b
  subst b
  exact ⟨a, rfl⟩
section
variable {prog : Program} {w : World} {A : Around} {E : Value → Shared → Prop} {s : Shared} {h₀ : Heap} {L l : Addr} {news : List (Addr × Obj)} {value slice : PySem.Expr} {a b : Value} {u : Tok} {n : Nat} {Q : Value → Shared → Prop}
theorem nz_pair0 (N : News h₀ L s.heap news) (hm : (l, ({ cls := .type "tuple", data := .seq [a, b].toArray n } : Obj)) ∈ news) (h : Q a s)
    (hs : subscripted slice false (.ref l) (.int 0 u) = operate [.ref l, .int 0 u] (getItem (.ref l) (.int 0 u))) : wpAny (model prog w) A (subscriptTail value slice (.ref l) (.int 0 u)) Q E s :=
  item_tupleT (l := [a, b]) (j := 0) ⟨_, (N _ hm).1, rfl, n, rfl⟩ (by decide) (by decide) rfl rfl h hs
theorem nz_pair1 (N : News h₀ L s.heap news) (hm : (l, ({ cls := .type "tuple", data := .seq [a, b].toArray n } : Obj)) ∈ news) (h : Q b s)
    (hs : subscripted slice false (.ref l) (.int 1 u) = operate [.ref l, .int 1 u] (getItem (.ref l) (.int 1 u))) : wpAny (model prog w) A (subscriptTail value slice (.ref l) (.int 1 u)) Q E s :=
  item_tupleT (l := [a, b]) (j := 1) ⟨_, (N _ hm).1, rfl, n, rfl⟩ (by decide) (by decide) rfl rfl h hs
end
theorem off_L7 : True := by
  w_top off
  k_with_none
  (k_with "znz in" => first | with_reducible assumption | with_reducible exact List.mem_cons_self | ((with_reducible refine List.mem_cons_of_mem _ ?_); walk_at "nz in") | ((with_reducible refine List.mem_append_right _ ?_); walk_at "nz in") | ((with_reducible refine List.mem_append_left _ ?_); walk_at "nz in"))
  (k_with "znz hA" => exact rfl)
  (k_with "znz room" => (first | exact room1 (by with_reducible assumption) rfl | exact room2 (by with_reducible assumption) rfl | omega | ((try simp only [depth_under_make, depth_under_kw, depth_in1, depth_deeper]); (try dsimp only [nzA]); (try simp only [recursionLimit]); omega)))
  (k_with "znz units" => (first | exact room1 (by with_reducible assumption) rfl | exact room2 (by with_reducible assumption) rfl | omega | ((try simp only [units_in1, units_deeper, Around.mark_units]); (try dsimp only [nzA]); (try simp only [cLine]); omega)))
  (k_with "znz enter" => first | (refine' code_def ?q5k1 ?q5k2 ?q5k3 ?q5k4 ?q5k5 ?q5kA ?q5kF ?q5kK ?q5k6 ?q5k7 ?q5k8 ?q5k9 ?q5kB ?_ ?q5c2 ?q5c3 ?q5c4 ?q5c5; (case q5kA => walk_at "nz hA"); (case q5kF | q5kK => first | assumption | exact rfl); (case q5k1 | q5k2 | q5k3 | q5k4 | q5k5 => k_asm); (case q5k6 | q5k7 => k_is); (case q5k8 => walk_at "nz room"); (case q5k9 => exact BindsTo.of_eq rfl); (case q5c5 => decide); (case q5kB => exact locs rfl); (case q5c2 | q5c3 | q5c4 => exact rfl); k_whole; intro gpq5 Lpq5 hpq5 FGpq5 Fpq5 Npq5 Bpq5 Xpq5 Tpq5; (try dsimp only); (try k_lift Bpq5); (try k_fold); with_reducible refine anyE fun EE => ?_) | (refine' code_defC ?q5k1 ?q5k2 ?q5k3 ?q5k4 ?q5k5 ?q5kA ?q5kF ?q5kK ?q5k6 ?q5k7 ?q5k8 ?q5k9 ?q5kB ?q5kD ?_ ?q5c2 ?q5c3 ?q5c4; (case q5kA => walk_at "nz hA"); (case q5kF | q5kK => first | assumption | exact rfl); (case q5k1 | q5k2 | q5k3 | q5k4 | q5k5 => k_asm); (case q5k6 | q5k7 => k_is); (case q5k8 => walk_at "nz room"); (case q5k9 => exact BindsTo.of_eq rfl); (case q5kB => exact rfl); (case q5kD => decide +kernel); (case q5c2 | q5c3 | q5c4 => exact rfl); k_whole; intro gpq5 Lpq5 hpq5 tkpq5 cellspq5 FGpq5 Fpq5 Npq5 Ypq5 Bpq5 Xpq5 Tpq5 l1q5; (try k_lt l1q5); k_cells Ypq5; (try simp only [List.cons_append, List.nil_append] at Npq5); (try dsimp only); (try k_lift Bpq5); (try k_fold); with_reducible refine anyE fun EE => ?_))
  (k_with "zeval ListComp" => (k_here; refine Hold.go ?_))
  (k_with "zexec Assign cons ListComp" => (k_here; refine Hold.go ?_))
  (k_with "zcall ref" => (k_here; refine Hold.go ?_))
  (k_with "zexec For" => (k_here; refine Hold.go ?_))
  (k_with "znz fit" => (first | with_reducible assumption | exact fit_row (by with_reducible assumption) (by with_reducible assumption) | exact lt_len (by with_reducible assumption) (by with_reducible assumption) | omega | ((try simp only [List.length_map, List.length_cons, List.length_nil, List.size_toArray]); omega)))
  (k_with "zcall builtin:len" => (k_here; (with_reducible show wpAny _ _ (call (Value.builtin "len") [Value.ref _]) _ _ _); k_dflt (refine' nz_len ?q11N ?q11m ?q11f ?_; (case q11N => k_asm); (case q11m => k_mem); (case q11f => walk_at "nz fit"); k_whole)))
  (k_with "zsubscriptTail" => (k_here; (with_reducible show wpAny _ _ (subscriptTail _ _ (Value.ref _) (Value.int _ _)) _ _ _); k_dflt (refine' nz_item ?q12N ?q12m ?q12a ?q12b ?q12f ?_ ?q12k; (case q12N => k_asm); (case q12m => k_mem); (case q12a | q12b | q12f => walk_at "nz fit"); (case q12k => with_unfolding_all rfl); k_whole); intro vpq12 hvpq12))
  (k_with "zexecs cons" => (k_here; first | k_gentoks | (k_made; walk_at "execs cons") | (with_reducible refine cut_cons fun qk hqk => ?_)))
  (k_with "zQEnd" => (refine' behind_go ?q14h ?_; (case q14h => with_reducible assumption); dsimp only))
  (k_with "zeval Name" => (k_here; (with_reducible show wpAny _ _ (eval (Expr.Name _ _) (compEnvC _ _ _ _)) _ _ _); k_dflt (first | refine LCgL.ld_own (by k_asm) (by k_mem) (by assumption) (by assumption) ?_ | refine kcf_cell (by k_asm) (by rfl) (by k_mem) (by k_asm) ?_ | refine LCgL.ld_global (by k_asm) (by k_asm) (by k_asm) (by k_is) ?_ | refine LCgL.ld_built (by k_asm) (by k_asm) (by k_asm) (by k_is) (by boot_by_name) (by decide) ?_ | refine Hold.go ?_)))
  (k_with "zCompEnd" => (k_here; refine Hold.go ?_))
  (k_with "zCompSrc" => (k_here; refine Hold.go ?_))
  (k_with "znz sub" => first | with_reducible assumption | exact fun _ h => h | (intro p9q22 hp9q22; walk_at "nz in") | (intro p9q22 hp9q22; k_mem))
  (k_with "znz item" => (k_here; (with_reducible show wpAny _ _ (subscriptTail _ _ (Value.ref _) (Value.int _ _)) _ _ _); k_dflt (first | (refine' mat_item ?q23N ?q23m ?q23s ?q23a ?q23b ?q23f ?_ ?q23k; (case q23m => with_reducible assumption); (case q23N => k_asm); (case q23s => walk_at "nz sub"); (case q23a | q23b | q23f => walk_at "nz fit"); (case q23k => with_unfolding_all rfl); k_whole; intro bpq23 rowpq23 hrowpq23 hbrpq23; (try (have hlpq23 := Mat.getRow (by with_reducible assumption) hrowpq23))) | (refine' row_item ?q23N ?q23m ?q23s ?q23a ?q23b ?q23f ?_ ?q23k; (case q23m => with_reducible assumption); (case q23N => k_asm); (case q23s => walk_at "nz sub"); (case q23a | q23b | q23f => walk_at "nz fit"); (case q23k => with_unfolding_all rfl); k_whole; intro ipq23 tpq23 hipq23))))
  (k_with "zsubscriptTail" => walk_at "nz item")
  (k_with "zcall builtin:len" => (k_here; (with_reducible show wpAny _ _ (call (Value.builtin "len") [Value.ref _]) _ _ _); k_dflt (first | (refine' mat_len ?q25N ?q25m ?q25s ?q25f ?_; (case q25m => with_reducible assumption); (case q25N => k_asm); (case q25s => walk_at "nz sub"); (case q25f => walk_at "nz fit"); k_whole) | (refine' row_len ?q25N ?q25m ?q25s ?q25f ?_; (case q25m => with_reducible assumption); (case q25N => k_asm); (case q25s => walk_at "nz sub"); (case q25f => walk_at "nz fit"); k_whole))))
  (k_with "zcompareOp Eq ref ref" => (k_here; k_dflt (refine' mat_eq ?q26N ?q26a ?q26b ?q26c ?q26d ?q26u ?_; (case q26a | q26c => with_reducible assumption); (case q26N => k_asm); (case q26b | q26d => walk_at "nz sub"); (case q26u => walk_at "nz units"); k_whole)))
  (k_with "zcompareOp NotEq ref ref" => (k_here; k_dflt (refine' mat_ne ?q27N ?q27a ?q27b ?q27c ?q27d ?q27u ?_; (case q27a | q27c => with_reducible assumption); (case q27N => k_asm); (case q27b | q27d => walk_at "nz sub"); (case q27u => walk_at "nz units"); k_whole)))
  (k_with "zcall type:list" => (k_here; (with_reducible show wpAny _ _ (call (Value.type _) [Value.ref _]) _ _ _); k_dflt (refine' row_copy ?q29F ?q29N ?q29m ?q29s ?q29f ?_; (case q29m => with_reducible assumption); (case q29F | q29N => k_asm); (case q29s => walk_at "nz sub"); (case q29f => walk_at "nz fit"); k_whole); intro Dpq29 opq29 hpq29 Fpq29 Npq29 l1pq29 hDpq29; (have nzqpq29 := l1pq29); (k_lt l1pq29); (try k_sweep); (try dsimp only)))
  (k_with "zsubscriptTail Name Slice ref ref" => (k_here; (with_reducible show wpAny _ _ (subscriptTail _ (PySem.Expr.Slice none none (some _) _) (Value.ref _) (Value.ref _)) _ _ _); k_dflt (first | (refine' row_rev ?q30F ?q30N ?q30m ?q30s ?q30f ?q30k ?_ ?q30e ?q30t; (case q30m => with_reducible assumption); (case q30F | q30N => k_asm); (case q30s => walk_at "nz sub"); (case q30f => walk_at "nz fit"); (case q30k => exact IsPart.int _ _); (case q30e => with_unfolding_all rfl); (case q30t => kmk_pure)) | (refine' mat_rev ?q30F ?q30N ?q30m ?q30s ?q30f ?q30k ?_ ?q30e ?q30t; (case q30m => with_reducible assumption); (case q30F | q30N => k_asm); (case q30s => walk_at "nz sub"); (case q30f => walk_at "nz fit"); (case q30k => exact IsPart.int _ _); (case q30e => with_unfolding_all rfl); (case q30t => kmk_pure))); intro Dpq30 opq30 hpq30 Fpq30 Npq30 l1pq30 hDpq30; (have nzqpq30 := l1pq30); (k_lt l1pq30); (try k_sweep); (try dsimp only)))
  (k_with "zEltEnd" => (k_here; refine Hold.go ?_))
  (k_with "zTurnC" => (k_here; refine Hold.go ?_))
  (k_with "zpyIter ref" => (k_here; refine Hold.go ?_))
  (k_with "zTurnU" => (k_here; refine Hold.go ?_))
  (k_with "zexec For Name Call cons nil" => (k_here; k_dflt (refine wpAny_For ?_)))
  (k_with "zexec For" => (k_here; k_dflt (refine wpAny_For ?_)))
  (k_with "zcompareOp Eq ref ref" => (k_here; k_dflt (refine' mat_eqNil ?q40N ?q40a ?q40b ?q40c ?q40u ?_; (case q40a => with_reducible assumption); (case q40N => k_asm); (case q40b => walk_at "nz sub"); (case q40c => k_mem); (case q40u => walk_at "nz units"); k_whole)))
  (k_with "zcompareOp Eq ref ref" => (k_here; k_dflt (refine' mat_neNil ?q41N ?q41a ?q41b ?q41e ?q41c ?q41u ?_; (case q41a | q41e => with_reducible assumption); (case q41N => k_asm); (case q41b => walk_at "nz sub"); (case q41c => k_mem); (case q41u => walk_at "nz units"); k_whole)))
  (k_with "zcompareOp Eq ref ref" => (k_here; k_dflt (refine' mat_eq ?q42N ?q42a ?q42b ?q42c ?q42d ?q42u ?_; (case q42a | q42c => with_reducible assumption); (case q42N => k_asm); (case q42b | q42d => walk_at "nz sub"); (case q42u => walk_at "nz units"); k_whole)))
  (k_with "zexec Raise" => (k_here; refine Hold.go ?_))
  (k_with "znz dec" => ((try simp only [beq_iff_eq, bne_iff_ne, decide_eq_true_eq, ne_eq, Bool.not_eq_true', Bool.not_eq_true]); omega))
  (k_with "zite" => (k_here; k_dflt (first | refine ite_pos (by walk_at "nz dec") ?_ | refine ite_neg (by walk_at "nz dec") ?_)))
  (k_with "znz subs" => first | walk_at "nz item" | (k_here; k_dflt (first | ((with_reducible show wpAny _ _ (subscriptTail _ _ (Value.ref _) (Value.int 0 _)) _ _ _); refine' nz_pair0 ?q48N ?q48m ?_ ?q48k; (case q48N => k_asm); (case q48m => k_mem); (case q48k => with_unfolding_all rfl); k_whole) | ((with_reducible show wpAny _ _ (subscriptTail _ _ (Value.ref _) (Value.int 1 _)) _ _ _); refine' nz_pair1 ?q48N ?q48m ?_ ?q48k; (case q48N => k_asm); (case q48m => k_mem); (case q48k => with_unfolding_all rfl); k_whole))))
  (k_with "zsubscriptTail Name" => walk_at "nz subs")
  (k_with "zsubscriptTail Subscript" => walk_at "nz subs")
  trivial
section
variable {w : World} {mean : ExcName → Option Value} {mg mb : Str → Option Value} {A₀ : Around} {dp un : Nat} {gd : Option (List Code)} {env : Env} {outer : List Env} {base h₀ : Heap} {L : Addr} {m : Str → Option Value} {s : Shared} {R : Result → Shared → Prop} {news : List (Addr × Obj)}
  (B : Below A₀ base outer h₀) (F : Fr h₀ L s.heap m) (X : (Mine.hd.heap_39 w.params).In h₀) (T : TopH mean mg mb h₀)
  (hf : env.frame = some L) (hk : env.scope.kind = .function)
include B F X T hf hk

theorem spot_t {wd : Str} {tw : Tok} {px py W H : Int} {tx ty tW tH : Tok} (N : News h₀ L s.heap news) (hd : dp + 1 ≤ 400) (hu : un + 20 ≤ 1000)
    (ret : ∀ (D : Addr) (a b : Int) ta tb k h' tk', a = (spotF wd px py W H).1 → b = (spotF wd px py W H).2 → Fr h₀ L h' m → News h₀ L h' ((D, { cls := .type "tuple", data := .seq [Value.int a ta, .int b tb].toArray k }) :: news) → (∀ q ∈ news, q.1 < D) → R (.ok (.ret (.ref D))) { s with heap := h', toks := tk' }) :
    codeAny (model PySem.Challenge.pw_nz0241_01 w) (nzA dp un gd env outer) (.call (.ref 150) ⟨[.str wd tw, .int px tx, .int py ty, .int W tW, .int H tH], []⟩) R s := by
  k_dflt (refine' code_def ?k1 ?k2 ?k3 ?k4 ?k5 ?kA ?kF ?kK ?k6 ?k7 ?k8 ?k9 ?kB ?_ ?c2 ?c3 ?c4 ?c5; (case kA => exact rfl); (case kF => first | assumption | exact rfl); (case kK => first | assumption | exact rfl); (case k1 => k_asm); (case k2 => k_asm); (case k3 => k_asm); (case k4 => k_asm); (case k5 => k_asm); (case k6 => k_is); (case k7 => k_is); (case k8 => walk_at "nz room"); (case k9 => exact BindsTo.of_eq rfl); (case c5 => decide); (case kB => exact locs rfl); (case c2 => exact rfl); (case c3 => exact rfl); (case c4 => exact rfl); k_whole; intro g1 L1 h1 FG1 F1 N1 B1 X1 T1; (try dsimp only); (try k_lift B1); (try k_fold); with_reducible refine anyE fun EE => ?_)

  k_steps
  all_goals (rename AllLt _ _ => al)
  all_goals (refine ret _ _ _ _ _ _ _ _ ?_ ?_ (by k_asm) (newsHead (by k_asm) ?_) (fun q hq => Nat.lt_of_lt_of_le (allLt_all al q hq) (by show @LE.le Nat _ _ _; omega)))
  all_goals first
    | (intro p hp; walk_at "nz in")
    | (simp only [spotF, wTr, wMi, wFl]; simp only [*]; done)
    | (simp only [spotF, wTr, wMi, wFl]; simp [*]; done)

end
theorem off_L8 : True := by
  w_top off
  k_with_none
  (k_with "znz in" => first | with_reducible assumption | with_reducible exact List.mem_cons_self | ((with_reducible refine List.mem_cons_of_mem _ ?_); walk_at "nz in") | ((with_reducible refine List.mem_append_right _ ?_); walk_at "nz in") | ((with_reducible refine List.mem_append_left _ ?_); walk_at "nz in"))
  (k_with "znz hA" => exact rfl)
  (k_with "znz room" => (first | exact room1 (by with_reducible assumption) rfl | exact room2 (by with_reducible assumption) rfl | omega | ((try simp only [depth_under_make, depth_under_kw, depth_in1, depth_deeper]); (try dsimp only [nzA]); (try simp only [recursionLimit]); omega)))
  (k_with "znz units" => (first | exact room1 (by with_reducible assumption) rfl | exact room2 (by with_reducible assumption) rfl | omega | ((try simp only [units_in1, units_deeper, Around.mark_units]); (try dsimp only [nzA]); (try simp only [cLine]); omega)))
  (k_with "znz enter" => first | (refine' code_def ?q5k1 ?q5k2 ?q5k3 ?q5k4 ?q5k5 ?q5kA ?q5kF ?q5kK ?q5k6 ?q5k7 ?q5k8 ?q5k9 ?q5kB ?_ ?q5c2 ?q5c3 ?q5c4 ?q5c5; (case q5kA => walk_at "nz hA"); (case q5kF | q5kK => first | assumption | exact rfl); (case q5k1 | q5k2 | q5k3 | q5k4 | q5k5 => k_asm); (case q5k6 | q5k7 => k_is); (case q5k8 => walk_at "nz room"); (case q5k9 => exact BindsTo.of_eq rfl); (case q5c5 => decide); (case q5kB => exact locs rfl); (case q5c2 | q5c3 | q5c4 => exact rfl); k_whole; intro gpq5 Lpq5 hpq5 FGpq5 Fpq5 Npq5 Bpq5 Xpq5 Tpq5; (try dsimp only); (try k_lift Bpq5); (try k_fold); with_reducible refine anyE fun EE => ?_) | (refine' code_defC ?q5k1 ?q5k2 ?q5k3 ?q5k4 ?q5k5 ?q5kA ?q5kF ?q5kK ?q5k6 ?q5k7 ?q5k8 ?q5k9 ?q5kB ?q5kD ?_ ?q5c2 ?q5c3 ?q5c4; (case q5kA => walk_at "nz hA"); (case q5kF | q5kK => first | assumption | exact rfl); (case q5k1 | q5k2 | q5k3 | q5k4 | q5k5 => k_asm); (case q5k6 | q5k7 => k_is); (case q5k8 => walk_at "nz room"); (case q5k9 => exact BindsTo.of_eq rfl); (case q5kB => exact rfl); (case q5kD => decide +kernel); (case q5c2 | q5c3 | q5c4 => exact rfl); k_whole; intro gpq5 Lpq5 hpq5 tkpq5 cellspq5 FGpq5 Fpq5 Npq5 Ypq5 Bpq5 Xpq5 Tpq5 l1q5; (try k_lt l1q5); k_cells Ypq5; (try simp only [List.cons_append, List.nil_append] at Npq5); (try dsimp only); (try k_lift Bpq5); (try k_fold); with_reducible refine anyE fun EE => ?_))
  (k_with "zeval ListComp" => (k_here; refine Hold.go ?_))
  (k_with "zexec Assign cons ListComp" => (k_here; refine Hold.go ?_))
  (k_with "zcall ref" => (k_here; refine Hold.go ?_))
  (k_with "zexec For" => (k_here; refine Hold.go ?_))
  (k_with "znz fit" => (first | with_reducible assumption | exact fit_row (by with_reducible assumption) (by with_reducible assumption) | exact lt_len (by with_reducible assumption) (by with_reducible assumption) | omega | ((try simp only [List.length_map, List.length_cons, List.length_nil, List.size_toArray]); omega)))
  (k_with "zcall builtin:len" => (k_here; (with_reducible show wpAny _ _ (call (Value.builtin "len") [Value.ref _]) _ _ _); k_dflt (refine' nz_len ?q11N ?q11m ?q11f ?_; (case q11N => k_asm); (case q11m => k_mem); (case q11f => walk_at "nz fit"); k_whole)))
  (k_with "zsubscriptTail" => (k_here; (with_reducible show wpAny _ _ (subscriptTail _ _ (Value.ref _) (Value.int _ _)) _ _ _); k_dflt (refine' nz_item ?q12N ?q12m ?q12a ?q12b ?q12f ?_ ?q12k; (case q12N => k_asm); (case q12m => k_mem); (case q12a | q12b | q12f => walk_at "nz fit"); (case q12k => with_unfolding_all rfl); k_whole); intro vpq12 hvpq12))
  (k_with "zexecs cons" => (k_here; first | k_gentoks | (k_made; walk_at "execs cons") | (with_reducible refine cut_cons fun qk hqk => ?_)))
  (k_with "zQEnd" => (refine' behind_go ?q14h ?_; (case q14h => with_reducible assumption); dsimp only))
  (k_with "zeval Name" => (k_here; (with_reducible show wpAny _ _ (eval (Expr.Name _ _) (compEnvC _ _ _ _)) _ _ _); k_dflt (first | refine LCgL.ld_own (by k_asm) (by k_mem) (by assumption) (by assumption) ?_ | refine kcf_cell (by k_asm) (by rfl) (by k_mem) (by k_asm) ?_ | refine LCgL.ld_global (by k_asm) (by k_asm) (by k_asm) (by k_is) ?_ | refine LCgL.ld_built (by k_asm) (by k_asm) (by k_asm) (by k_is) (by boot_by_name) (by decide) ?_ | refine Hold.go ?_)))
  (k_with "zCompEnd" => (k_here; refine Hold.go ?_))
  (k_with "zCompSrc" => (k_here; refine Hold.go ?_))
  (k_with "znz sub" => first | with_reducible assumption | exact fun _ h => h | (intro p9q22 hp9q22; walk_at "nz in") | (intro p9q22 hp9q22; k_mem))
  (k_with "znz item" => (k_here; (with_reducible show wpAny _ _ (subscriptTail _ _ (Value.ref _) (Value.int _ _)) _ _ _); k_dflt (first | (refine' mat_item ?q23N ?q23m ?q23s ?q23a ?q23b ?q23f ?_ ?q23k; (case q23m => with_reducible assumption); (case q23N => k_asm); (case q23s => walk_at "nz sub"); (case q23a | q23b | q23f => walk_at "nz fit"); (case q23k => with_unfolding_all rfl); k_whole; intro bpq23 rowpq23 hrowpq23 hbrpq23; (try (have hlpq23 := Mat.getRow (by with_reducible assumption) hrowpq23))) | (refine' row_item ?q23N ?q23m ?q23s ?q23a ?q23b ?q23f ?_ ?q23k; (case q23m => with_reducible assumption); (case q23N => k_asm); (case q23s => walk_at "nz sub"); (case q23a | q23b | q23f => walk_at "nz fit"); (case q23k => with_unfolding_all rfl); k_whole; intro ipq23 tpq23 hipq23))))
  (k_with "zsubscriptTail" => walk_at "nz item")
  (k_with "zcall builtin:len" => (k_here; (with_reducible show wpAny _ _ (call (Value.builtin "len") [Value.ref _]) _ _ _); k_dflt (first | (refine' mat_len ?q25N ?q25m ?q25s ?q25f ?_; (case q25m => with_reducible assumption); (case q25N => k_asm); (case q25s => walk_at "nz sub"); (case q25f => walk_at "nz fit"); k_whole) | (refine' row_len ?q25N ?q25m ?q25s ?q25f ?_; (case q25m => with_reducible assumption); (case q25N => k_asm); (case q25s => walk_at "nz sub"); (case q25f => walk_at "nz fit"); k_whole))))
  (k_with "zcompareOp Eq ref ref" => (k_here; k_dflt (refine' mat_eq ?q26N ?q26a ?q26b ?q26c ?q26d ?q26u ?_; (case q26a | q26c => with_reducible assumption); (case q26N => k_asm); (case q26b | q26d => walk_at "nz sub"); (case q26u => walk_at "nz units"); k_whole)))
  (k_with "zcompareOp NotEq ref ref" => (k_here; k_dflt (refine' mat_ne ?q27N ?q27a ?q27b ?q27c ?q27d ?q27u ?_; (case q27a | q27c => with_reducible assumption); (case q27N => k_asm); (case q27b | q27d => walk_at "nz sub"); (case q27u => walk_at "nz units"); k_whole)))
  (k_with "zcall type:list" => (k_here; (with_reducible show wpAny _ _ (call (Value.type _) [Value.ref _]) _ _ _); k_dflt (refine' row_copy ?q29F ?q29N ?q29m ?q29s ?q29f ?_; (case q29m => with_reducible assumption); (case q29F | q29N => k_asm); (case q29s => walk_at "nz sub"); (case q29f => walk_at "nz fit"); k_whole); intro Dpq29 opq29 hpq29 Fpq29 Npq29 l1pq29 hDpq29; (have nzqpq29 := l1pq29); (k_lt l1pq29); (try k_sweep); (try dsimp only)))
  (k_with "zsubscriptTail Name Slice ref ref" => (k_here; (with_reducible show wpAny _ _ (subscriptTail _ (PySem.Expr.Slice none none (some _) _) (Value.ref _) (Value.ref _)) _ _ _); k_dflt (first | (refine' row_rev ?q30F ?q30N ?q30m ?q30s ?q30f ?q30k ?_ ?q30e ?q30t; (case q30m => with_reducible assumption); (case q30F | q30N => k_asm); (case q30s => walk_at "nz sub"); (case q30f => walk_at "nz fit"); (case q30k => exact IsPart.int _ _); (case q30e => with_unfolding_all rfl); (case q30t => kmk_pure)) | (refine' mat_rev ?q30F ?q30N ?q30m ?q30s ?q30f ?q30k ?_ ?q30e ?q30t; (case q30m => with_reducible assumption); (case q30F | q30N => k_asm); (case q30s => walk_at "nz sub"); (case q30f => walk_at "nz fit"); (case q30k => exact IsPart.int _ _); (case q30e => with_unfolding_all rfl); (case q30t => kmk_pure))); intro Dpq30 opq30 hpq30 Fpq30 Npq30 l1pq30 hDpq30; (have nzqpq30 := l1pq30); (k_lt l1pq30); (try k_sweep); (try dsimp only)))
  (k_with "zEltEnd" => (k_here; refine Hold.go ?_))
  (k_with "zTurnC" => (k_here; refine Hold.go ?_))
  (k_with "zpyIter ref" => (k_here; refine Hold.go ?_))
  (k_with "zTurnU" => (k_here; refine Hold.go ?_))
  (k_with "zexec For Name Call cons nil" => (k_here; k_dflt (refine wpAny_For ?_)))
  (k_with "zexec For" => (k_here; k_dflt (refine wpAny_For ?_)))
  (k_with "zcompareOp Eq ref ref" => (k_here; k_dflt (refine' mat_eqNil ?q40N ?q40a ?q40b ?q40c ?q40u ?_; (case q40a => with_reducible assumption); (case q40N => k_asm); (case q40b => walk_at "nz sub"); (case q40c => k_mem); (case q40u => walk_at "nz units"); k_whole)))
  (k_with "zcompareOp Eq ref ref" => (k_here; k_dflt (refine' mat_neNil ?q41N ?q41a ?q41b ?q41e ?q41c ?q41u ?_; (case q41a | q41e => with_reducible assumption); (case q41N => k_asm); (case q41b => walk_at "nz sub"); (case q41c => k_mem); (case q41u => walk_at "nz units"); k_whole)))
  (k_with "zcompareOp Eq ref ref" => (k_here; k_dflt (refine' mat_eq ?q42N ?q42a ?q42b ?q42c ?q42d ?q42u ?_; (case q42a | q42c => with_reducible assumption); (case q42N => k_asm); (case q42b | q42d => walk_at "nz sub"); (case q42u => walk_at "nz units"); k_whole)))
  (k_with "zexec Raise" => (k_here; refine Hold.go ?_))
  (k_with "znz dec" => ((try simp only [beq_iff_eq, bne_iff_ne, decide_eq_true_eq, ne_eq, Bool.not_eq_true', Bool.not_eq_true]); omega))
  (k_with "zite" => (k_here; k_dflt (first | refine ite_pos (by walk_at "nz dec") ?_ | refine ite_neg (by walk_at "nz dec") ?_)))
  (k_with "znz subs" => first | walk_at "nz item" | (k_here; k_dflt (first | ((with_reducible show wpAny _ _ (subscriptTail _ _ (Value.ref _) (Value.int 0 _)) _ _ _); refine' nz_pair0 ?q48N ?q48m ?_ ?q48k; (case q48N => k_asm); (case q48m => k_mem); (case q48k => with_unfolding_all rfl); k_whole) | ((with_reducible show wpAny _ _ (subscriptTail _ _ (Value.ref _) (Value.int 1 _)) _ _ _); refine' nz_pair1 ?q48N ?q48m ?_ ?q48k; (case q48N => k_asm); (case q48m => k_mem); (case q48k => with_unfolding_all rfl); k_whole))))
  (k_with "zsubscriptTail Name" => walk_at "nz subs")
  (k_with "zsubscriptTail Subscript" => walk_at "nz subs")
  (k_with "zcall ref" => (k_here; refine wpAny_call ?_; k_dflt (refine' spot_t ?q51B ?q51F ?q51X ?q51T ?q51hf ?q51hk ?q51N ?q51hd ?q51hu ?_; (case q51B | q51F | q51X | q51T => k_asm); (case q51hf | q51hk => first | assumption | exact rfl); (case q51N => k_asm); (case q51hd => walk_at "nz room"); (case q51hu => walk_at "nz units"); k_whole); intro Dpq51 apq51 bpq51 tapq51 tbpq51 kpq51 hpq51 tkpq51 hapq51 hbpq51 Fpq51 Npq51 l1pq51; (have nzqpq51 := l1pq51); (try (k_lt l1pq51)); (try k_sweep); (try dsimp only)))
  (k_with "znewList" => (k_here; (with_reducible show wpAny _ _ (newList []) _ _ _); refine Hold.go ?_))
  (k_with "zeval Name" => (k_here; k_dflt (refine' nz_local ?q53F ?q53hx ?_ ?q53hL ?q53hk ?q53hl ?q53hd; (case q53F => k_asm); (case q53hl => exact rfl); (case q53hx => first | with_reducible assumption | exact (if_neg (by decide)).trans (by with_reducible assumption) | exact if_pos rfl); (case q53hL | q53hk => exact rfl); (case q53hd => decide); k_whole)))
  trivial
section
variable {w : World} {mean : ExcName → Option Value} {mg mb : Str → Option Value} {A₀ : Around} {dp un : Nat} {gd : Option (List Code)} {env : Env} {outer : List Env} {base h₀ : Heap} {L : Addr} {m : Str → Option Value} {s : Shared} {R : Result → Shared → Prop} {news : List (Addr × Obj)}
  (B : Below A₀ base outer h₀) (F : Fr h₀ L s.heap m) (X : (Mine.hd.heap_39 w.params).In h₀) (T : TopH mean mg mb h₀)
  (hf : env.frame = some L) (hk : env.scope.kind = .function)
include B F X T hf hk

def lawTurn (wd : Str) (M : List (List Int)) (W H : Int) : List (List Int) :=
  (List.range (if wTr wd = true then W else H).toNat).map fun (y : Nat) => (List.range (if wTr wd = true then H else W).toNat).map fun (x : Nat) => getM M (spotF wd x y W H).2 (spotF wd x y W H).1
theorem lawTurned_t {r : Addr} {M : List (List Int)} {W H : Int} {wd : Str} {tw : Tok} {n1 : List (Addr × Obj)} (N : News h₀ L s.heap news) (hM : DatIn n1 (.ref r) (matD M)) (hM0 : ∀ p ∈ n1, p ∈ news) (hMat : Mat M W H) (hd : dp + 4 ≤ 400) (hu : un + 80 ≤ 1000)
    (ret : ∀ (r' : Addr) tl h' tk', DatIn tl (.ref r') (matD (lawTurn wd M W H)) → Apart tl news → Fr h₀ L h' m → News h₀ L h' (tl ++ news) → R (.ok (.ret (.ref r'))) { s with heap := h', toks := tk' }) :
    codeAny (model PySem.Challenge.pw_nz0241_01 w) (nzA dp un gd env outer) (.call (.ref 155) ⟨[.ref r, .str wd tw], []⟩) R s := by
  replace hM := hM.mono hM0
  obtain ⟨q1, q2, q3, q4, q5, q6⟩ := id hMat
  have hne := hMat.ne
  k_dflt (refine' code_defC ?k1 ?k2 ?k3 ?k4 ?k5 ?kA ?kF ?kK ?k6 ?k7 ?k8 ?k9 ?kB ?kD ?_ ?c2 ?c3 ?c4; (case kA => exact rfl); (case kF => first | assumption | exact rfl); (case kK => first | assumption | exact rfl); (case k1 => k_asm); (case k2 => k_asm); (case k3 => k_asm); (case k4 => k_asm); (case k5 => k_asm); (case k6 => k_is); (case k7 => k_is); (case k8 => walk_at "nz room"); (case k9 => exact BindsTo.of_eq rfl); (case kB => exact rfl); (case kD => decide +kernel); (case c2 => exact rfl); (case c3 => exact rfl); (case c4 => exact rfl); k_whole; intro g1 L1 h1 tk1 cells1 FG1 F1 N1 Y1 B1 X1 T1 l1; (try k_lt l1); obtain ⟨oc1, oc2, oc3, oc4, oc5, hE, dc1, dc2, dc3, dc4, dc5⟩ := kc_five Y1; subst hE; (try simp only [List.cons_append, List.nil_append] at N1); (try dsimp only); (try k_lift B1); (try k_fold); with_reducible refine anyE fun EE => ?_)

  k_steps
  · (rename (((List.length _ : Nat) : Int) = W) => hl9)
    (rename List Int => row9)
    (rename (([Str.ofString "right", Str.ofString "left", Str.ofString "swap", Str.ofString "cross"].any fun x => x == wd) = _) => ht9)
    have hT : wTr wd = true := ht9
    have hsp : ∀ (x y : Int), (0 ≤ x ∧ x < H) → (0 ≤ y ∧ y < W) → _ := fun x y hx hy => spotF_in (wd := wd) (W := W) (H := H) (x := x) (y := y) (by rw [hT]; exact hx) (by rw [hT]; exact hy)
    unfold lawTurn at ret
    simp only [hT, if_true, if_false, Bool.false_eq_true, reduceIte] at ret
    unfold Hold
    k_dflt (refine' newList_K ?k1 ?k2 ?_; (case k1 => k_asm); (case k2 => k_asm); k_whole)
    intro D hD FD ND lD
    k_lt lD
    k_steps
    unfold Hold
    (rename News _ _ _ _ => N9)
    (rename Fr _ _ _ _ => F9)
    obtain ⟨oh, ow, N9, ⟨tH, hoh⟩, ⟨tW, how⟩⟩ : ∃ oh ow, News g1 L1 _ ((D, listOf ([] : List Value).toArray 0) :: (L1 + 1 + 1 + 1 + 1 + 1, oc1) :: ((L1 + 1 + 1 + 1 + 1, oh) :: (L1 + 1 + 1 + 1, ow) :: (L1 + 1 + 1, oc4) :: (L1 + 1, oc5) :: news)) ∧ (∃ t, oh.data = .cell (some (.int (M.length : Int) t))) ∧ (∃ t, ow.data = .cell (some (.int (row9.length : Int) t))) := ⟨_, _, news_drop3 N9, ⟨_, by assumption⟩, ⟨_, by assumption⟩⟩
    obtain ⟨nb, hnb⟩ : ∃ nb, nb = ((L1 + 1 + 1 + 1 + 1, oh) :: (L1 + 1 + 1 + 1, ow) :: (L1 + 1 + 1, oc4) :: (L1 + 1, oc5) :: news) := ⟨_, rfl⟩
    obtain ⟨b1, b2, b3, b5, b4⟩ : (L1 + 1 + 1 + 1 + 1, oh) ∈ nb ∧ (L1 + 1 + 1 + 1, ow) ∈ nb ∧ (L1 + 1 + 1, oc4) ∈ nb ∧ (L1 + 1, oc5) ∈ nb ∧ ∀ p ∈ news, p ∈ nb := by
      subst hnb; exact ⟨.head _, .tail _ (.head _), .tail _ (.tail _ (.head _)), .tail _ (.tail _ (.tail _ (.head _))), fun p hp => .tail _ (.tail _ (.tail _ (.tail _ hp)))⟩
    have bD : ∀ p ∈ nb, @Ne Nat p.1 D ∧ @Ne Nat p.1 (L1 + 1 + 1 + 1 + 1 + 1) := by
      subst hnb; intro p hp
      have al := allLt_all l1
      simp only [List.mem_cons] at hp
      rcases hp with rfl | rfl | rfl | rfl | hp
      · constructor <;> ((try dsimp only); omega)
      · constructor <;> ((try dsimp only); omega)
      · constructor <;> ((try dsimp only); omega)
      · constructor <;> ((try dsimp only); omega)
      · have : @LT.lt Nat _ p.1 L1 := al p hp; constructor <;> ((try dsimp only); omega)
    rw [← hnb] at N9
    have hM' := hM.mono b4
    k_dflt (refine' for_range (fun i m' nw' => ∃ (ys : List Value) (k : Nat) (oS : Obj) (tl : List (Addr × Obj)) (aa : Int) (ta : Tok), nw' = (D, listOf ys.toArray k) :: (L1 + 1 + 1 + 1 + 1 + 1, oS) :: (tl ++ nb) ∧ (∃ v, oS.data = .cell v) ∧ ys.length = i ∧
      DatAll tl ys ((List.range i).map fun (y : Nat) => rowD ((List.range H.toNat).map fun (x : Nat) => getM M (spotF wd x y W H).2 (spotF wd x y W H).1)) ∧ Apart tl ((D, oc1) :: (L1 + 1 + 1 + 1 + 1 + 1, oc1) :: nb) ∧ m' (Str.ofString "found") = some (.ref D) ∧ m' (Str.ofString "across") = some (.int aa ta) ∧ aa = H) ?hh ?hr ?h0 ?h1 ?F ?N ?hJ ?turn ?done ?ht)
    case F => exact F9
    case N => exact N9
    case ht => exact fun _ _ => rfl
    case hJ => exact ⟨[], 0, oc1, [], _, _, rfl, ⟨_, dc1⟩, rfl, .nil, Apart.nil, if_pos rfl, (if_neg (by decide)).trans (if_pos rfl), by omega⟩
    case hh => exact rfl
    case hr => assumption
    case h0 => omega
    case h1 => omega
    case turn =>
      clear N9 F9
      intro I g i k tk0 oI m₁ nw₁ h tk E' hi hk9 hJ F' N' off
      obtain ⟨ys, kk, oS, tl, aa, ta, rfl, ⟨vS, hvS⟩, hyl, hds, hap, hfo, hac, haa⟩ := hJ
      have hz9 : ys.length ≤ 16777216 := app8 hyl hi (by omega)
      have c1 : ∀ p ∈ tl ++ nb, @Ne Nat p.1 D := fun p hp => (List.mem_append.mp hp).elim (fun h => hap p h _ (.head _)) fun h => (bD p h).1
      have c2 : ∀ p ∈ tl ++ nb, @Ne Nat p.1 (L1 + 1 + 1 + 1 + 1 + 1) := fun p hp => (List.mem_append.mp hp).elim (fun h => hap p h _ (.tail _ (.head _))) fun h => (bD p h).2
      have c3 : @Ne Nat D I := off _ (.head _)
      have c4 : @Ne Nat (L1 + 1 + 1 + 1 + 1 + 1) I := off _ (.tail _ (.head _))
      have c3' := Ne.symm c3
      have c4' := Ne.symm c4
      k_steps
      unfold Hold
      k_dflt (refine LCg.Assign_ListComp_U (F₀ := by k_asm) (by rfl) (by with_unfolding_all rfl) (by with_unfolding_all rfl) (by decide) (by rfl) (by decide) (by rfl) (by rfl) (by rfl) ?_)
      k_steps
      unfold Hold
      (rename News _ _ _ _ => N8)
      k_dflt (refine src_range (fun x => Dat.tuple [.int (spotF wd (x : Nat) (i : Nat) W H).1, .int (spotF wd (x : Nat) (i : Nat) W H).2]) (by rfl) (by k_asm) N8 (by assumption) (by omega) (by omega) ?_ ?_)
      · intro g2 i2 tl2 k2 tk2 I2 oI2 C2 oC2 D2 oD2 m2 h2 tk3 E2 hi2 hk2 hC2 hx2 F2 N2 off2 ne2 ha2
        k_steps
        (rename (_ = (spotF _ _ _ _ _).1) => ha9)
        (rename (_ = (spotF _ _ _ _ _).2) => hb9)
        rw [hl9, q5, hk2, hk9] at ha9 hb9
        exact Hold.out (eltEnd_one (by k_asm) (by k_asm) (DatIn.tuple (.head _) (.cons (by rw [← ha9]; exact .int _ _) (.cons (by rw [← hb9]; exact .int _ _) .nil))) (by assumption))
      · intro g2 ys2 tl2 hyl2 hds2 hap2
        intro D2 h2 tk2 F2 N2 off2
        obtain ⟨hD2, hA2⟩ := comp_fin hds2 hap2 off2
        k_steps
        unfold Hold
        k_dflt (refine LCg.ListComp_U (F₀ := by k_asm) (by with_unfolding_all rfl) (by decide) (by rfl) (by decide) (by rfl) ?_)
        k_steps
        unfold Hold
        (rename News _ _ _ _ => N8)
        k_dflt (refine src_list (fun x => Dat.int (getM M (spotF wd (x : Nat) (i : Nat) W H).2 (spotF wd (x : Nat) (i : Nat) W H).1)) (by rfl) (by k_asm) N8 (hD2.mono ?sb) (fun _ h => h) (by simp only [List.length_map, List.length_range]; omega) ?_ ?_)
        case sb =>
          intro p hp
          rcases List.mem_cons.mp hp with h | h <;> simp [h]
        · intro g3 i3 tl3 v3 dv3 I3 oI3 C3 oC3 D3 oD3 m3 h3 tk3 E3 hdv3 hv3 hC3 hx3 F3 N3 off3 ne3 ha3
          obtain ⟨hlt3, rfl⟩ := mapRange_at hdv3
          obtain ⟨a3, n3, t3, u3, rfl, hp3⟩ := datIn_pair hv3
          have hs3 := hsp i3 i (in_range (by assumption) (by assumption)) (in_range (by assumption) (by assumption))
          k_steps
          exact Hold.out (eltEnd_int F3 N3 (getM_of (by assumption) (by assumption)))
        · intro g3 ys3 tl3 hyl3 hds3 hap3
          intro D3 h3 tk3 F3 N3 off3
          have q7 : ∀ p : Addr × Obj, p ∈ _ → @Ne Nat D3 p.1 := fun p hp => off1_at off3 p (List.mem_append_right _ (.tail _ (List.mem_append_right _ hp)))
          have q1 : @Ne Nat D3 I := q7 (I, oI) (.head _)
          have q2 : @Ne Nat D3 D := q7 _ (.tail _ (.head _))
          have q3 : @Ne Nat D3 (L1 + 1 + 1 + 1 + 1 + 1) := q7 _ (.tail _ (.tail _ (.head _)))
          have q4 : ∀ p ∈ tl ++ nb, @Ne Nat D3 p.1 := fun p hp => q7 p (.tail _ (.tail _ (.tail _ hp)))
          replace N3 := news_drop2 N3
          k_steps
          (rename News _ _ _ _ => N7)
          (rename Fr _ _ _ _ => F7)
          rw [List.push_toArray] at N7
          obtain ⟨oS9, N6, dS9⟩ : ∃ o9, News g1 L1 _ ((D3, LCg.lst ys3) :: (I, oI) :: (D, listOf (ys ++ [Value.ref D3]).toArray (kk + 1)) :: (L1 + 1 + 1 + 1 + 1 + 1, o9) :: (tl ++ nb)) ∧ ∃ v, o9.data = .cell v := ⟨_, N7, _, by assumption⟩
          refine turnU_done F7 N6 ((D, listOf (ys ++ [Value.ref D3]).toArray (kk + 1)) :: (L1 + 1 + 1 + 1 + 1 + 1, oS9) :: (((D3, LCg.lst ys3) :: tl) ++ nb)) ?_ ?_ ⟨ys ++ [Value.ref D3], kk + 1, oS9, (D3, LCg.lst ys3) :: tl, aa, ta, rfl, dS9, by rw [List.length_append, hyl]; rfl, ?_, ?_, (if_neg (by decide)).trans hfo, (if_neg (by decide)).trans hac, haa⟩
          · intro p hp
            simp only [List.mem_cons, List.mem_append] at hp ⊢
            rcases hp with h | h | h | (h | h) | h <;> simp [h]
          · refine List.forall_mem_cons.mpr ⟨c3, List.forall_mem_cons.mpr ⟨c4, fun p hp => ?_⟩⟩
            rcases List.mem_append.mp hp with hp | h
            · rcases List.mem_cons.mp hp with rfl | h
              · exact q1
              · exact off p (.tail _ (.tail _ (List.mem_append_left _ h)))
            · exact off p (.tail _ (.tail _ (List.mem_append_right _ h)))
          · rw [range_map_succ]
            refine DatAll.append (datAll_up hds fun p hp => .tail _ hp) (.cons (DatIn.list (.head _) ?_) .nil)
            refine datAll_free (nw := tl3) ?_
            rw [List.map_map]
            rw [List.length_map, List.length_range, haa] at hds3
            exact hds3
          · refine Apart.cons (List.forall_mem_cons.mpr ⟨q2, List.forall_mem_cons.mpr ⟨q3, fun q hq => q4 q (List.mem_append_right _ hq)⟩⟩) hap
    case done =>
      intro g2 m₂ nw' h2 tk2 hJ F2 N2
      obtain ⟨ys, kk, oS, tl, aa, ta, rfl, ⟨vS, hvS⟩, hyl, hds, hap, hfo, hac, haa⟩ := hJ
      k_steps
      (rename News _ _ _ _ => N7)
      (rename Fr _ _ _ _ => F7)
      first | rw [hl9] at hds | rw [q5] at hds
      refine ret D ((D, listOf ys.toArray kk) :: tl) _ _ ?_ ?_ F7 (newsSub N7 fun p hp => ?_)
      · refine DatIn.list (.head _) (datAll_up ?_ fun p hp => .tail _ hp)
        rw [List.map_map]
        exact hds
      · exact Apart.cons (fun q hq => Ne.symm (bD q (b4 q hq)).1) fun p hp q hq => hap p hp q (.tail _ (.tail _ (b4 q hq)))
      · simp only [List.mem_append, List.mem_cons] at hp ⊢
        rcases hp with (h | h) | h
        · exact .inl h
        · exact .inr (.inr (.inl h))
        · exact .inr (.inr (.inr (b4 p h)))
  · (rename (((List.length _ : Nat) : Int) = W) => hl9)
    (rename List Int => row9)
    (rename (([Str.ofString "right", Str.ofString "left", Str.ofString "swap", Str.ofString "cross"].any fun x => x == wd) = _) => ht9)
    have hT : wTr wd = false := ht9
    have hsp : ∀ (x y : Int), (0 ≤ x ∧ x < W) → (0 ≤ y ∧ y < H) → _ := fun x y hx hy => spotF_in (wd := wd) (W := W) (H := H) (x := x) (y := y) (by rw [hT]; exact hx) (by rw [hT]; exact hy)
    unfold lawTurn at ret
    simp only [hT, if_true, if_false, Bool.false_eq_true, reduceIte] at ret
    unfold Hold
    k_dflt (refine' newList_K ?k1 ?k2 ?_; (case k1 => k_asm); (case k2 => k_asm); k_whole)
    intro D hD FD ND lD
    k_lt lD
    k_steps
    unfold Hold
    (rename News _ _ _ _ => N9)
    (rename Fr _ _ _ _ => F9)
    obtain ⟨oh, ow, N9, ⟨tH, hoh⟩, ⟨tW, how⟩⟩ : ∃ oh ow, News g1 L1 _ ((D, listOf ([] : List Value).toArray 0) :: (L1 + 1 + 1 + 1 + 1 + 1, oc1) :: ((L1 + 1 + 1 + 1 + 1, oh) :: (L1 + 1 + 1 + 1, ow) :: (L1 + 1 + 1, oc4) :: (L1 + 1, oc5) :: news)) ∧ (∃ t, oh.data = .cell (some (.int (M.length : Int) t))) ∧ (∃ t, ow.data = .cell (some (.int (row9.length : Int) t))) := ⟨_, _, news_drop3 N9, ⟨_, by assumption⟩, ⟨_, by assumption⟩⟩
    obtain ⟨nb, hnb⟩ : ∃ nb, nb = ((L1 + 1 + 1 + 1 + 1, oh) :: (L1 + 1 + 1 + 1, ow) :: (L1 + 1 + 1, oc4) :: (L1 + 1, oc5) :: news) := ⟨_, rfl⟩
    obtain ⟨b1, b2, b3, b5, b4⟩ : (L1 + 1 + 1 + 1 + 1, oh) ∈ nb ∧ (L1 + 1 + 1 + 1, ow) ∈ nb ∧ (L1 + 1 + 1, oc4) ∈ nb ∧ (L1 + 1, oc5) ∈ nb ∧ ∀ p ∈ news, p ∈ nb := by
      subst hnb; exact ⟨.head _, .tail _ (.head _), .tail _ (.tail _ (.head _)), .tail _ (.tail _ (.tail _ (.head _))), fun p hp => .tail _ (.tail _ (.tail _ (.tail _ hp)))⟩
    have bD : ∀ p ∈ nb, @Ne Nat p.1 D ∧ @Ne Nat p.1 (L1 + 1 + 1 + 1 + 1 + 1) := by
      subst hnb; intro p hp
      have al := allLt_all l1
      simp only [List.mem_cons] at hp
      rcases hp with rfl | rfl | rfl | rfl | hp
      · constructor <;> ((try dsimp only); omega)
      · constructor <;> ((try dsimp only); omega)
      · constructor <;> ((try dsimp only); omega)
      · constructor <;> ((try dsimp only); omega)
      · have : @LT.lt Nat _ p.1 L1 := al p hp; constructor <;> ((try dsimp only); omega)
    rw [← hnb] at N9
    have hM' := hM.mono b4
    k_dflt (refine' for_range (fun i m' nw' => ∃ (ys : List Value) (k : Nat) (oS : Obj) (tl : List (Addr × Obj)) (aa : Int) (ta : Tok), nw' = (D, listOf ys.toArray k) :: (L1 + 1 + 1 + 1 + 1 + 1, oS) :: (tl ++ nb) ∧ (∃ v, oS.data = .cell v) ∧ ys.length = i ∧
      DatAll tl ys ((List.range i).map fun (y : Nat) => rowD ((List.range W.toNat).map fun (x : Nat) => getM M (spotF wd x y W H).2 (spotF wd x y W H).1)) ∧ Apart tl ((D, oc1) :: (L1 + 1 + 1 + 1 + 1 + 1, oc1) :: nb) ∧ m' (Str.ofString "found") = some (.ref D) ∧ m' (Str.ofString "across") = some (.int aa ta) ∧ aa = W) ?hh ?hr ?h0 ?h1 ?F ?N ?hJ ?turn ?done ?ht)
    case F => exact F9
    case N => exact N9
    case ht => exact fun _ _ => rfl
    case hJ => exact ⟨[], 0, oc1, [], _, _, rfl, ⟨_, dc1⟩, rfl, .nil, Apart.nil, if_pos rfl, (if_neg (by decide)).trans (if_pos rfl), by omega⟩
    case hh => exact rfl
    case hr => assumption
    case h0 => omega
    case h1 => omega
    case turn =>
      clear N9 F9
      intro I g i k tk0 oI m₁ nw₁ h tk E' hi hk9 hJ F' N' off
      obtain ⟨ys, kk, oS, tl, aa, ta, rfl, ⟨vS, hvS⟩, hyl, hds, hap, hfo, hac, haa⟩ := hJ
      have hz9 : ys.length ≤ 16777216 := app8 hyl hi (by omega)
      have c1 : ∀ p ∈ tl ++ nb, @Ne Nat p.1 D := fun p hp => (List.mem_append.mp hp).elim (fun h => hap p h _ (.head _)) fun h => (bD p h).1
      have c2 : ∀ p ∈ tl ++ nb, @Ne Nat p.1 (L1 + 1 + 1 + 1 + 1 + 1) := fun p hp => (List.mem_append.mp hp).elim (fun h => hap p h _ (.tail _ (.head _))) fun h => (bD p h).2
      have c3 : @Ne Nat D I := off _ (.head _)
      have c4 : @Ne Nat (L1 + 1 + 1 + 1 + 1 + 1) I := off _ (.tail _ (.head _))
      have c3' := Ne.symm c3
      have c4' := Ne.symm c4
      k_steps
      unfold Hold
      k_dflt (refine LCg.Assign_ListComp_U (F₀ := by k_asm) (by rfl) (by with_unfolding_all rfl) (by with_unfolding_all rfl) (by decide) (by rfl) (by decide) (by rfl) (by rfl) (by rfl) ?_)
      k_steps
      unfold Hold
      (rename News _ _ _ _ => N8)
      k_dflt (refine src_range (fun x => Dat.tuple [.int (spotF wd (x : Nat) (i : Nat) W H).1, .int (spotF wd (x : Nat) (i : Nat) W H).2]) (by rfl) (by k_asm) N8 (by assumption) (by omega) (by omega) ?_ ?_)
      · intro g2 i2 tl2 k2 tk2 I2 oI2 C2 oC2 D2 oD2 m2 h2 tk3 E2 hi2 hk2 hC2 hx2 F2 N2 off2 ne2 ha2
        k_steps
        (rename (_ = (spotF _ _ _ _ _).1) => ha9)
        (rename (_ = (spotF _ _ _ _ _).2) => hb9)
        rw [hl9, q5, hk2, hk9] at ha9 hb9
        exact Hold.out (eltEnd_one (by k_asm) (by k_asm) (DatIn.tuple (.head _) (.cons (by rw [← ha9]; exact .int _ _) (.cons (by rw [← hb9]; exact .int _ _) .nil))) (by assumption))
      · intro g2 ys2 tl2 hyl2 hds2 hap2
        intro D2 h2 tk2 F2 N2 off2
        obtain ⟨hD2, hA2⟩ := comp_fin hds2 hap2 off2
        k_steps
        unfold Hold
        k_dflt (refine LCg.ListComp_U (F₀ := by k_asm) (by with_unfolding_all rfl) (by decide) (by rfl) (by decide) (by rfl) ?_)
        k_steps
        unfold Hold
        (rename News _ _ _ _ => N8)
        k_dflt (refine src_list (fun x => Dat.int (getM M (spotF wd (x : Nat) (i : Nat) W H).2 (spotF wd (x : Nat) (i : Nat) W H).1)) (by rfl) (by k_asm) N8 (hD2.mono ?sb) (fun _ h => h) (by simp only [List.length_map, List.length_range]; omega) ?_ ?_)
        case sb =>
          intro p hp
          rcases List.mem_cons.mp hp with h | h <;> simp [h]
        · intro g3 i3 tl3 v3 dv3 I3 oI3 C3 oC3 D3 oD3 m3 h3 tk3 E3 hdv3 hv3 hC3 hx3 F3 N3 off3 ne3 ha3
          obtain ⟨hlt3, rfl⟩ := mapRange_at hdv3
          obtain ⟨a3, n3, t3, u3, rfl, hp3⟩ := datIn_pair hv3
          have hs3 := hsp i3 i (in_range (by assumption) (by assumption)) (in_range (by assumption) (by assumption))
          k_steps
          exact Hold.out (eltEnd_int F3 N3 (getM_of (by assumption) (by assumption)))
        · intro g3 ys3 tl3 hyl3 hds3 hap3
          intro D3 h3 tk3 F3 N3 off3
          have q7 : ∀ p : Addr × Obj, p ∈ _ → @Ne Nat D3 p.1 := fun p hp => off1_at off3 p (List.mem_append_right _ (.tail _ (List.mem_append_right _ hp)))
          have q1 : @Ne Nat D3 I := q7 (I, oI) (.head _)
          have q2 : @Ne Nat D3 D := q7 _ (.tail _ (.head _))
          have q3 : @Ne Nat D3 (L1 + 1 + 1 + 1 + 1 + 1) := q7 _ (.tail _ (.tail _ (.head _)))
          have q4 : ∀ p ∈ tl ++ nb, @Ne Nat D3 p.1 := fun p hp => q7 p (.tail _ (.tail _ (.tail _ hp)))
          replace N3 := news_drop2 N3
          k_steps
          (rename News _ _ _ _ => N7)
          (rename Fr _ _ _ _ => F7)
          rw [List.push_toArray] at N7
          obtain ⟨oS9, N6, dS9⟩ : ∃ o9, News g1 L1 _ ((D3, LCg.lst ys3) :: (I, oI) :: (D, listOf (ys ++ [Value.ref D3]).toArray (kk + 1)) :: (L1 + 1 + 1 + 1 + 1 + 1, o9) :: (tl ++ nb)) ∧ ∃ v, o9.data = .cell v := ⟨_, N7, _, by assumption⟩
          refine turnU_done F7 N6 ((D, listOf (ys ++ [Value.ref D3]).toArray (kk + 1)) :: (L1 + 1 + 1 + 1 + 1 + 1, oS9) :: (((D3, LCg.lst ys3) :: tl) ++ nb)) ?_ ?_ ⟨ys ++ [Value.ref D3], kk + 1, oS9, (D3, LCg.lst ys3) :: tl, aa, ta, rfl, dS9, by rw [List.length_append, hyl]; rfl, ?_, ?_, (if_neg (by decide)).trans hfo, (if_neg (by decide)).trans hac, haa⟩
          · intro p hp
            simp only [List.mem_cons, List.mem_append] at hp ⊢
            rcases hp with h | h | h | (h | h) | h <;> simp [h]
          · refine List.forall_mem_cons.mpr ⟨c3, List.forall_mem_cons.mpr ⟨c4, fun p hp => ?_⟩⟩
            rcases List.mem_append.mp hp with hp | h
            · rcases List.mem_cons.mp hp with rfl | h
              · exact q1
              · exact off p (.tail _ (.tail _ (List.mem_append_left _ h)))
            · exact off p (.tail _ (.tail _ (List.mem_append_right _ h)))
          · rw [range_map_succ]
            refine DatAll.append (datAll_up hds fun p hp => .tail _ hp) (.cons (DatIn.list (.head _) ?_) .nil)
            refine datAll_free (nw := tl3) ?_
            rw [List.map_map]
            rw [List.length_map, List.length_range, haa] at hds3
            exact hds3
          · refine Apart.cons (List.forall_mem_cons.mpr ⟨q2, List.forall_mem_cons.mpr ⟨q3, fun q hq => q4 q (List.mem_append_right _ hq)⟩⟩) hap
    case done =>
      intro g2 m₂ nw' h2 tk2 hJ F2 N2
      obtain ⟨ys, kk, oS, tl, aa, ta, rfl, ⟨vS, hvS⟩, hyl, hds, hap, hfo, hac, haa⟩ := hJ
      k_steps
      (rename News _ _ _ _ => N7)
      (rename Fr _ _ _ _ => F7)
      first | rw [hl9] at hds | rw [q5] at hds
      refine ret D ((D, listOf ys.toArray kk) :: tl) _ _ ?_ ?_ F7 (newsSub N7 fun p hp => ?_)
      · refine DatIn.list (.head _) (datAll_up ?_ fun p hp => .tail _ hp)
        rw [List.map_map]
        exact hds
      · exact Apart.cons (fun q hq => Ne.symm (bD q (b4 q hq)).1) fun p hp q hq => hap p hp q (.tail _ (.tail _ (b4 q hq)))
      · simp only [List.mem_append, List.mem_cons] at hp ⊢
        rcases hp with (h | h) | h
        · exact .inl h
        · exact .inr (.inr (.inl h))
        · exact .inr (.inr (.inr (b4 p h)))


end
section
variable {prog : Program} {w : World} {A : Around} {E : Value → Shared → Prop} {s : Shared} {h₀ : Heap} {L : Addr} {m : Str → Option Value} {env : Env} 
theorem newEnv_cell {x : Str} {scope : Scope} {cl : List (Str × Addr)} {globals : Addr} {qual : Str} {env' : Env} {Q : Env → Shared → Prop} (hn : ∀ k, cellsFrom k scope.names cl = (x, k) :: cl) (hp : ∀ h, pushCells h scope.names = h.push { cls := .type "cell", data := .cell none })
    (hQ : Q { scope, locals := s.heap.objs.size, globals, cells := (x, s.heap.objs.size + 1) :: cl, qual, func := none, code := env'.code, frame := env'.frame, builtins := env'.builtins }
      { s with heap := (s.heap.push { cls := .type "dict", data := .dict #[] }).push { cls := .type "cell", data := .cell none } }) :
    wpAny (model prog w) A (newFunctionEnv scope globals cl [] qual none .none (some env')) Q E s := by
  simp only [newFunctionEnv, Option.isSome_some, if_true]
  refine wpAny_bind (wpAny_alloc ?_)
  refine wpAny_bind (wpAny_layCells _ (fun name kind cells => by cases hkc : kind == NameKind.cell <;> simp [hkc]) _ _ _ _ ?_)
  rw [hn, hp]
  refine wpAny_bind ?_
  rw [List.forIn_nil]
  refine wpAny_pure (wpAny_pure ?_)
  simpa [Heap.size_push] using hQ
theorem blockK {elt iter : Expr} {x : Str} {px : Pos} {scope : Scope} {cl : List (Str × Addr)} {pos : Pos} {s₂ : Shared} {I : Addr} {n : Nat} {d : Nat → Dat} {nw : List (Addr × Obj)} {RR : Value → Addr → Result → Shared → Prop}
    (hh : A.handled = none) (hsz : n ≤ sizeLine) (hn : ∀ k, cellsFrom k scope.names cl = (x, k) :: cl) (hp : ∀ h, pushCells h scope.names = h.push { cls := .type "cell", data := .cell none })
    (hkx : ∀ K C, (compEnvC scope ((x, K) :: cl) C env).kindOf x = some .cell) (hkf : scope.kind = .function) (hst : IsRangeIter s₂.heap I (0 + ((0 : Nat) : Int) * 1) ((n : Int) - ((0 : Nat) : Int)) 1)
    (F : Fr h₀ L s₂.heap m) (N : News h₀ L s₂.heap nw) (hIL : L ≠ I) (hI₀ : h₀.get? I = none) (off : ∀ p ∈ nw, p.1 ≠ I)
    (elt_ok : ∀ i tl k tk0 I oI K oK C oC D oD h tk (E' : Value → Shared → Prop), i < n → k = ((i : Nat) : Int) → oK.data = .cell (some (.int k tk0)) → Fr h₀ L h m → News h₀ L h ((I, oI) :: (K, oK) :: (C, oC) :: (D, oD) :: (tl ++ nw)) → Apart tl nw →
      wpAny (model prog w) A (eval elt (compEnvC scope ((x, K) :: cl) C env)) (EltEnd h₀ L m ((I, oI) :: (K, oK) :: (C, oC) :: (D, oD) :: (tl ++ nw)) (d i) { s₂ with heap := h, toks := tk }) E' { s₂ with heap := h, toks := tk })
    (hRR : ∀ D C h tk m' ys tl, Fr h₀ L h m → News h₀ L h ((D, LCg.lst ys) :: (tl ++ nw)) → LCg.Off1 D (tl ++ nw) → h.Ns C m' → h₀.get? C = none → C ≠ L → C ≠ D → (∀ p ∈ tl ++ nw, p.1 ≠ C) → ys.length = n → DatAll tl ys ((List.range n).map d) → Apart tl nw → RR (.ref D) C (.ok .next) { s₂ with heap := h, toks := tk }) :
    wpAny (model prog w) A (newList []) (fun acc s₃ => wpAny (model prog w) A (newFunctionEnv scope env.globals cl [] env.qual none .none (some env)) (fun cenv s₄ =>
      codeAny (model prog w) A (.compStart (.ListComp elt [⟨.Name x px, iter, [], 0⟩] scope pos) 0 (.ref I) acc { cenv with scope := relabel scope env }) (RR acc cenv.locals) s₄) E s₃) E s₂ := by
  refine wpAny_newObj_type (newEnv_cell hn hp ?_)
  dsimp only
  have W := LCg.range_walks (prog := prog) (w := w) (A := A) (I := I) hh 0 n
  have hIlt : @LT.lt Nat _ I s₂.heap.objs.size := Heap.lt_size hst
  have hLlt : @LT.lt Nat _ L s₂.heap.objs.size := F.ns.lt
  have fresh₀ : ∀ a : Nat, s₂.heap.objs.size ≤ a → h₀.get? a = none := fun a ha => by
    cases e : h₀.get? a with
    | none => rfl
    | some o' => exact absurd (Heap.lt_size (F.keep a o' e)) (Nat.not_lt.mpr ha)
  generalize hH2 : s₂.heap.push { cls := .type "list", dict := none, data := .seq ([] : List Value).toArray } = H2
  have hC : H2.objs.size = s₂.heap.objs.size + 1 := by rw [← hH2, Heap.size_push]
  have nsC := Heap.Ns.new H2 (.type "dict")
  have szH3 : (H2.push { cls := .type "dict", data := .dict #[] }).objs.size = H2.objs.size + 1 := Heap.size_push ..
  have gK : ((H2.push { cls := .type "dict", data := .dict #[] }).push { cls := .type "cell", data := .cell none }).get? (H2.objs.size + 1) = some { cls := .type "cell", data := .cell none } := szH3 ▸ Heap.get?_push_size _ rfl
  have up : ∀ b o, H2.get? b = some o → ((H2.push { cls := .type "dict", data := .dict #[] }).push { cls := .type "cell", data := .cell none }).get? b = some o := fun b o e => Heap.get?_push_of_some _ (Heap.get?_push_of_some _ e)
  have old : ∀ b o, s₂.heap.get? b = some o → ((H2.push { cls := .type "dict", data := .dict #[] }).push { cls := .type "cell", data := .cell none }).get? b = some o := fun b o e => up b o (hH2 ▸ Heap.get?_push_of_some _ e)
  have gD := up _ _ (hH2 ▸ Heap.get?_push_size s₂.heap (o := { cls := .type "list", dict := none, data := .seq ([] : List Value).toArray }) rfl)
  have gC := nsC.keeps fun _ _ e => Heap.get?_push_of_some { cls := .type "cell", data := .cell none } e
  generalize hH : (H2.push { cls := .type "dict", data := .dict #[] }).push { cls := .type "cell", data := .cell none } = H at gK old gD gC
  obtain ⟨D, hDe⟩ : ∃ D : Nat, D = s₂.heap.objs.size := ⟨_, rfl⟩
  obtain ⟨C, hCe⟩ : ∃ C : Nat, C = H2.objs.size := ⟨_, rfl⟩
  obtain ⟨K, hKe⟩ : ∃ K : Nat, K = H2.objs.size + 1 := ⟨_, rfl⟩
  have hCD : C = D + 1 := by rw [hCe, hDe, hC]
  have hKD : K = D + 1 + 1 := by rw [hKe, hDe, hC]
  rw [← hDe] at gD hIlt hLlt fresh₀ ⊢
  rw [← hCe] at gC hKe
  rw [← hCe] at gK
  rw [← hKe] at gK
  rw [← hCe, ← hKe]
  clear hH hH2 hC szH3 nsC up
  have nCD : @Ne Nat C D := by omega
  have nKD : @Ne Nat K D := by omega
  have nKC : @Ne Nat K C := by omega
  have nIC : @Ne Nat I C := by omega
  have nID : @Ne Nat I D := by omega
  have nIK : @Ne Nat I K := by omega
  have nCL : @Ne Nat C L := by omega
  have nDL : @Ne Nat D L := by omega
  have nKL : @Ne Nat K L := by omega
  have hD₀ := fresh₀ D (Nat.le_refl _)
  have hC₀ := fresh₀ C (by omega)
  have hK₀ := fresh₀ K (by omega)
  have small : ∀ p ∈ nw, @LT.lt Nat _ p.1 D := fun p hp => hDe ▸ Heap.lt_size (N p hp).1
  have loop : ∀ s₃ : Shared, s₃ = { s₂ with heap := H } →
      codeAny (model prog w) A (.compLoop (.ListComp elt [⟨.Name x px, iter, [], 0⟩] scope pos) 0 (.ref I) (.ref D) (compEnvC scope ((x, K) :: cl) C env)) (RR (.ref D) C) s₃ := by
    rintro s₃ rfl
    refine codeAny_compLoop_tests
      (fun k s' => ∃ h' tk i ys tl oK m', s' = { s₂ with heap := h', toks := tk } ∧ i ≤ n ∧ k = n + 1 - i ∧ ys.length = i ∧ IsRangeIter h' I (0 + ((i : Nat) : Int) * 1) ((n : Int) - ((i : Nat) : Int)) 1 ∧ Fr h₀ L h' m ∧ h'.Ns C m' ∧ (∃ v, oK.data = .cell v) ∧
        News h₀ L h' ((K, oK) :: (D, LCg.lst ys) :: (tl ++ nw)) ∧ (∀ p ∈ tl ++ nw, p.1 ≠ I ∧ p.1 ≠ K ∧ p.1 ≠ C ∧ p.1 ≠ D) ∧ DatAll tl ys ((List.range i).map d) ∧ Apart tl nw) ?_ (n + 1)
      ⟨H, s₂.toks, 0, [], [], { cls := .type "cell", data := .cell none }, _, rfl, Nat.zero_le _, rfl, rfl, old _ _ hst, F.keeps old, gC, ⟨none, rfl⟩, fun p hp => ?_, fun p hp => ?_, .nil, Apart.nil⟩
    · rintro k s' ⟨h', tk, i, ys, tl, oK, m', rfl, hi, rfl, hyl, hst', F', hn', ⟨vK, hvK⟩, N', off', hd', ha'⟩
      by_cases hlt : i < n
      · refine W.item i _ _ _ hlt hst' fun v h₂ tk₂ hPv hst₂ hk₂ => ?_
        obtain ⟨t0, rfl⟩ := hPv
        have N₂ : News h₀ L h₂ ((K, oK) :: (D, LCg.lst ys) :: (tl ++ nw)) := LCg.news_but N' hk₂ fun p hp => by
          rcases List.mem_cons.mp hp with rfl | hp
          · exact Ne.symm nIK
          · rcases List.mem_cons.mp hp with rfl | hp
            · exact Ne.symm nID
            · exact (off' p hp).1
        have F₂ : Fr h₀ L h₂ m := LCg.fr_but F' hk₂ hIL hI₀
        have hn₂ : h₂.Ns C m' := hn'.at' fun o e => hk₂ _ o (by simpa using Ne.symm nIC) e
        refine wpAny_assign_Name (wpAny_storeName_cell (by simp [compEnvC, relabel, hkf]) (hkx K C) (by simp [compEnvC, List.lookup_cons]) ⟨_, (N₂ _ (.head _)).1, hvK⟩ fun h₃ hv₃ hs₃ => ?_)
        refine wpAny_tests_nil ?_
        simp only [if_true]
        obtain ⟨oK', hoK', hdK'⟩ := hv₃
        have hst₃ : IsRangeIter h₃ I (0 + (((i + 1) : Nat) : Int) * 1) ((n : Int) - (((i + 1) : Nat) : Int)) 1 := hs₃.extBut _ _ nIK hst₂
        have F₃ : Fr h₀ L h₃ m := F₂.change hs₃ nKL hK₀
        obtain ⟨oC, heC, hoC⟩ := LCg.ns_obj (hn₂.sameBut hs₃ (Ne.symm nKC))
        have N₃ : News h₀ L h₃ ((I, _) :: (K, oK') :: (C, oC) :: (D, LCg.lst ys) :: (tl ++ nw)) := fun p hp => by
          rcases List.mem_cons.mp hp with rfl | hp
          · exact ⟨hst₃, Ne.symm hIL, hI₀⟩
          · rcases List.mem_cons.mp hp with rfl | hp
            · exact ⟨hoK', nKL, hK₀⟩
            · rcases List.mem_cons.mp hp with rfl | hp
              · exact ⟨heC, nCL, hC₀⟩
              · have z := N₂ p (.tail _ hp)
                refine ⟨hs₃.extBut _ _ ?_ z.1, z.2⟩
                rcases List.mem_cons.mp hp with rfl | hp
                · exact Ne.symm nKD
                · exact (off' p hp).2.1
        refine wpAny_mono (elt_ok i tl _ t0 I _ K oK' C oC D _ h₃ tk₂ _ hlt (Int.zero_add _) hdK' F₃ N₃ ha') (fun y s₄ h₄ => ?_) fun _ _ e => e
        obtain ⟨t, h₄, tk₄, rfl, hy, ht, F₄, N₄⟩ := h₄
        have zI := (N₄ (I, _) (List.mem_append_right _ (.head _))).1
        have zK := N₄ (K, oK') (List.mem_append_right _ (.tail _ (.head _)))
        have zC := (N₄ (C, oC) (List.mem_append_right _ (.tail _ (.tail _ (.head _))))).1
        have zD := (N₄ (D, LCg.lst ys) (List.mem_append_right _ (.tail _ (.tail _ (.tail _ (.head _)))))).1
        refine append_at (hsz := by show ys.toArray.size ≤ sizeLine; rw [List.size_toArray, hyl]; exact Nat.le_trans hi hsz) zD fun h₅ hs₅ hD₅ => ?_
        have off₅ : ∀ p ∈ (t ++ tl) ++ nw, p.1 ≠ I ∧ p.1 ≠ K ∧ p.1 ≠ C ∧ p.1 ≠ D := fun p hp => by
          rcases List.mem_append.mp hp with hp | hp
          · rcases List.mem_append.mp hp with hp | hp
            · exact ⟨ht p hp _ (.head _), ht p hp _ (.tail _ (.head _)), ht p hp _ (.tail _ (.tail _ (.head _))), ht p hp _ (.tail _ (.tail _ (.tail _ (.head _))))⟩
            · exact off' p (List.mem_append_left _ hp)
          · exact off' p (List.mem_append_right _ hp)
        refine ⟨n + 1 - (i + 1), by omega, h₅, tk₄, i + 1, ys ++ [y], t ++ tl, oK', _, rfl, hlt, rfl, by rw [List.length_append, List.length_singleton, hyl], hs₅.extBut _ _ nID zI, F₄.change hs₅ nDL hD₀,
          (hoC.ns zC).sameBut hs₅ nCD, ⟨_, hdK'⟩, fun p hp => ?_, off₅, ?_, ?_⟩
        · rcases List.mem_cons.mp hp with rfl | hp
          · exact ⟨hs₅.extBut _ _ nKD zK.1, zK.2⟩
          · rcases List.mem_cons.mp hp with rfl | hp
            · exact ⟨hD₅.trans (congrArg some (LCg.lst_snoc ys y)), nDL, hD₀⟩
            · have z := N₄ p (by
                rcases List.mem_append.mp hp with hp | hp
                · rcases List.mem_append.mp hp with hp | hp
                  · exact List.mem_append_left _ hp
                  · exact List.mem_append_right _ (.tail _ (.tail _ (.tail _ (.tail _ (List.mem_append_left _ hp)))))
                · exact List.mem_append_right _ (.tail _ (.tail _ (.tail _ (.tail _ (List.mem_append_right _ hp))))))
              exact ⟨hs₅.extBut _ _ (off₅ p hp).2.2.2 z.1, z.2⟩
        · rw [range_map_succ]
          exact DatAll.append (datAll_up hd' fun p hp => List.mem_append_right _ hp) (.cons (DatIn.mono (fun p hp => List.mem_append_left _ hp) hy) .nil)
        · exact Apart.app (fun p hp q hq => ht p hp q (.tail _ (.tail _ (.tail _ (.tail _ (List.mem_append_right _ hq)))))) ha'
      · obtain rfl : i = n := Nat.le_antisymm hi (Nat.not_lt.mp hlt)
        refine W.done _ _ _ hst' fun h₂ tk₂ hk₂ => ?_
        refine hRR D C h₂ tk₂ _ ys tl (LCg.fr_but F' hk₂ hIL hI₀) (LCg.news_but (fun p hp => N' p (.tail _ hp)) hk₂ fun p hp => ?_) (LCg.Off3.one (I := I) (C := C) (LCg.Off3.of fun p hp => ⟨(off' p hp).1, (off' p hp).2.2.1, (off' p hp).2.2.2⟩)) (hn'.at' fun o e => hk₂ _ o (by simpa using Ne.symm nIC) e) hC₀ nCL nCD (fun p hp => (off' p hp).2.2.1) hyl hd' ha'
        rcases List.mem_cons.mp hp with rfl | hp
        · exact Ne.symm nID
        · exact (off' p hp).1
    · rcases List.mem_cons.mp hp with rfl | hp
      · exact ⟨gK, nKL, hK₀⟩
      · rcases List.mem_cons.mp hp with rfl | hp
        · exact ⟨gD, nDL, hD₀⟩
        · exact ⟨old _ _ (N p hp).1, (N p hp).2⟩
    · have := small p hp
      exact ⟨off p hp, (Nat.ne_of_lt (by omega) : @Ne Nat p.1 K), (Nat.ne_of_lt (by omega) : @Ne Nat p.1 C), (Nat.ne_of_lt (by omega) : @Ne Nat p.1 D)⟩
  exact codeAny_compStart_list (loop _ rfl) (W.self 0 _ _ _ (old _ _ hst) (loop _ rfl))
/-- what the range of a comprehension with a cell of its own has to bear -/
def SrcK (prog : Program) (w : World) (A : Around) (h₀ : Heap) (L : Addr) (m : Str → Option Value) (env : Env) (elt : Expr) (x : Str) (scope : Scope) (cl : List (Str × Addr)) (Q : Value → Shared → Prop) (xv : Value) (s₁ : Shared) : Prop :=
  ∃ (r : Addr) (b : Int) (t u v : Tok) (nw : List (Addr × Obj)) (d : Nat → Dat), xv = .ref r ∧ A.handled = none ∧ Fr h₀ L s₁.heap m ∧ News h₀ L s₁.heap nw ∧ IsRange s₁.heap r 0 b 1 t u v ∧ 0 ≤ b ∧ b < 1000 ∧
    (∀ g i tl k tk0 I oI K oK C oC D oD h tk (E' : Value → Shared → Prop), i < b.toNat → k = ((i : Nat) : Int) → oK.data = .cell (some (.int k tk0)) → Fr h₀ L h m → News h₀ L h ((I, oI) :: (K, oK) :: (C, oC) :: (D, oD) :: (tl ++ nw)) → Apart tl nw →
      wpAny (model prog w) A (eval elt (compEnvC scope ((x, K) :: cl) C env)) (EltEnd h₀ L m ((I, oI) :: (K, oK) :: (C, oC) :: (D, oD) :: (tl ++ nw)) (d i) { { s₁ with heap := g } with heap := h, toks := tk }) E' { { s₁ with heap := g } with heap := h, toks := tk }) ∧
    ∀ g ys tl, ys.length = b.toNat → DatAll tl ys ((List.range b.toNat).map d) → Apart tl nw → LCg.FinE h₀ L m { s₁ with heap := g } Q ys (tl ++ nw)
theorem ListComp_KK {elt iter : Expr} {x : Str} {px : Pos} {scope : Scope} {cl : List (Str × Addr)} {pos : Pos} {Q : Value → Shared → Prop} (_F₀ : Fr h₀ L s.heap m)
    (hclos : closureFor scope env = pure cl) (hn : ∀ k, cellsFrom k scope.names cl = (x, k) :: cl) (hp : ∀ h, pushCells h scope.names = h.push { cls := .type "cell", data := .cell none })
    (hkx : ∀ K C, (compEnvC scope ((x, K) :: cl) C env).kindOf x = some .cell) (hkind : scope.kind = .function)
    (hnames : ∀ z ∈ scope.names, z.2 = .local → scope.names.lookup z.1 = some .local)
    (h : wpAny (model prog w) A (eval iter env) (SrcK prog w A h₀ L m env elt x scope cl Q) E s)
    (hs : ∀ x, foldedSetIterable iter env x = pure x) :
    wpAny (model prog w) A (eval (.ListComp elt [⟨.Name x px, iter, [], 0⟩] scope pos) env) Q E s := by
  rw [eval_ListComp]
  refine wpAny_comprehension_free (use := none) rfl hs hclos hkind hnames (wpAny_mono h (fun xv s₁ h₁ => ?_) fun _ _ e => e)
  obtain ⟨r, b, t, u, v, nw, d, rfl, hh, F, N, hr, h0, h1, elt_ok, fin⟩ := h₁
  refine wpAny_pyIter_range hr (range_small h0 h1) ?_
  refine blockK hh (by rw [sizeLine_eq]; omega) hn hp hkx hkind (by show IsRangeIter _ _ _ _ _; rw [range_size h0]; simpa using Heap.get?_push_size _ rfl)
    (F.keeps fun _ _ e => Heap.get?_push_of_some _ e) (N.grown fun _ _ e => Heap.get?_push_of_some _ e) (Nat.ne_of_lt F.ns.lt) (next_is_new F) (fun p hp => Nat.ne_of_lt (Heap.lt_size (N p hp).1))
    (fun i tl k tk0 I oI K oK C oC D oD h tk E' hi hk' hoK F' N' ha => elt_ok _ i tl k tk0 I oI K oK C oC D oD h tk E' hi hk' hoK F' N' ha) ?_
  intro D C h' tk m' ys tl F' N' o1 hn hC₀ hCL hCD offC hyl hd ha
  refine ⟨m', hn, fun h'' hs'' => fin s₁.heap ys tl hyl hd ha D h'' tk (F'.change hs'' hCL hC₀) (fun p hp => ?_) o1⟩
  refine ⟨hs''.extBut _ _ ?_ (N' p hp).1, (N' p hp).2⟩
  rcases List.mem_cons.mp hp with rfl | hp
  · exact Ne.symm hCD
  · exact offC p hp
end
def pTr (wd : Str) : Bool := [Str.ofString "left", Str.ofString "right", Str.ofString "swap", Str.ofString "cross"].any fun x => x == wd
def pMi (wd : Str) : Bool := [Str.ofString "back", Str.ofString "mirror", Str.ofString "right", Str.ofString "cross"].any fun x => x == wd
def pFl (wd : Str) : Bool := [Str.ofString "back", Str.ofString "flip", Str.ofString "left", Str.ofString "cross"].any fun x => x == wd
def pSt (wd : Str) : Bool := [Str.ofString "stay", Str.ofString "mirror", Str.ofString "right", Str.ofString "swap"].any fun x => x == wd
def trM (M : List (List Int)) (W : Int) : List (List Int) := (List.range W.toNat).map fun (x : Nat) => M.map fun row => row.getD x 0
def turnM (wd : Str) (M : List (List Int)) (W : Int) : List (List Int) :=
  if pFl wd = true then (if pMi wd = true then (if pTr wd = true then trM M W else M).map List.reverse else if pTr wd = true then trM M W else M).reverse
  else if pMi wd = true then (if pTr wd = true then trM M W else M).map List.reverse else if pTr wd = true then trM M W else M
theorem Mat.tr {M : List (List Int)} {W H : Int} (h : Mat M W H) : Mat (trM M W) H W where
  h1 := h.w1
  h2 := h.w2
  w1 := h.h1
  w2 := h.h2
  len := by have := h.w1; simp [trM]; omega
  row := by
    intro r hr
    simp only [trM, List.mem_map] at hr
    obtain ⟨_, _, rfl⟩ := hr
    rw [List.length_map]; exact h.len
theorem Mat.mi {M : List (List Int)} {W H : Int} (h : Mat M W H) : Mat (M.map List.reverse) W H where
  h1 := h.h1
  h2 := h.h2
  w1 := h.w1
  w2 := h.w2
  len := by rw [List.length_map]; exact h.len
  row := by
    intro r hr
    obtain ⟨r', hr', rfl⟩ := List.mem_map.mp hr
    rw [List.length_reverse]; exact h.row _ hr'
theorem Mat.fl {M : List (List Int)} {W H : Int} (h : Mat M W H) : Mat M.reverse W H where
  h1 := h.h1
  h2 := h.h2
  w1 := h.w1
  w2 := h.w2
  len := by rw [List.length_reverse]; exact h.len
  row := fun r hr => h.row r (List.mem_reverse.mp hr)
theorem Mat.iteB {M N : List (List Int)} {b : Bool} {W H W' H' : Int} (h : Mat M W H) (k : Mat N W' H') : Mat (if b = true then M else N) (if b = true then W else W') (if b = true then H else H') := by
  cases b
  · exact k
  · exact h
/-- the end of an if that may put another matrix into the cell c -/
def IfEnd (h₀ : Heap) (L : Addr) (m : Str → Option Value) (c : Addr) (nb : List (Addr × Obj)) (M' : List (List Int)) (s₁ : Shared) (f : Flow) (s₂ : Shared) : Prop :=
  f = .next ∧ ∃ h' tk o r' tl, s₂ = { s₁ with heap := h', toks := tk } ∧ o.data = .cell (some (.ref r')) ∧ DatIn tl (.ref r') (matD M') ∧ (∀ p ∈ tl ++ nb, @Ne Nat p.1 c) ∧ Apart tl nb ∧ Fr h₀ L h' m ∧ News h₀ L h' ((c, o) :: (tl ++ nb))
section
variable {prog : Program} {w : World} {A : Around} {E : Value → Shared → Prop} {s₀ s₁ : Shared} {h₀ : Heap} {L c : Addr} {mm : Str → Option Value} {nb : List (Addr × Obj)} {M' : List (List Int)} {Q : Flow → Shared → Prop} {x : Sem Flow}
theorem ifCut (_F : Fr h₀ L s₀.heap mm) (walk : wpAny (model prog w) A x (IfEnd h₀ L mm c nb M' s₁) E s₀) (cont : ∀ f s₂, IfEnd h₀ L mm c nb M' s₁ f s₂ → Q f s₂) : wpAny (model prog w) A x Q E s₀ :=
  wpAny_mono walk cont fun _ _ e => e
end
theorem eltEnd_comp {h₀ : Heap} {L : Addr} {m : Str → Option Value} {led tl : List (Addr × Obj)} {D : Addr} {o : Obj} {d : Dat} {s₁ : Shared} {h' : Heap} {tk' : Nat} (F' : Fr h₀ L h' m) (N' : News h₀ L h' ((D, o) :: (tl ++ led))) (hd : DatIn ((D, o) :: tl) (.ref D) d) (ha : Apart ((D, o) :: tl) led) :
    EltEnd h₀ L m led d s₁ (.ref D) { s₁ with heap := h', toks := tk' } := ⟨(D, o) :: tl, h', tk', rfl, hd, ha, F', N'⟩
theorem to_head {h₀ h : Heap} {L c D : Addr} {ys : List Value} {oc : Obj} {tl mid nb : List (Addr × Obj)} {M : List (List Int)} (hD : DatIn ((D, LCg.lst ys) :: tl) (.ref D) (matD M)) (N : News h₀ L h ((D, LCg.lst ys) :: (tl ++ (c, oc) :: (mid ++ nb)))) (ha : Apart ((D, LCg.lst ys) :: tl) ((c, oc) :: (mid ++ nb))) (hnb : ∀ p ∈ nb, @Ne Nat p.1 c) :
    ∃ t, DatIn t (.ref D) (matD M) ∧ News h₀ L h ((c, oc) :: (t ++ nb)) ∧ (∀ p ∈ t ++ nb, @Ne Nat p.1 c) ∧ Apart t nb := by
  refine ⟨(D, LCg.lst ys) :: tl, hD, newsSub N fun p hp => ?_, fun p hp => ?_, fun p hp q hq => ha p hp q (.tail _ (List.mem_append_right _ hq))⟩
  · simp only [List.mem_cons, List.mem_append] at hp ⊢
    rcases hp with h | (h | h) | h <;> simp [h]
  · rcases List.mem_append.mp hp with hp | hp
    · exact ha p hp _ (.head _)
    · exact hnb p hp
theorem rev_end {c D : Addr} {o : Obj} {tC nb : List (Addr × Obj)} (lt : ∀ q ∈ nb, q.1 < D) (hc : @Ne Nat D c) (cC : ∀ p ∈ tC ++ nb, @Ne Nat p.1 c) (hAC : Apart tC nb) :
    (∀ p ∈ ((D, o) :: tC) ++ nb, @Ne Nat p.1 c) ∧ Apart ((D, o) :: tC) nb := by
  refine ⟨fun p hp => ?_, Apart.cons (fun q hq => Nat.ne_of_gt (lt q hq)) hAC⟩
  rcases List.mem_cons.mp hp with rfl | hp
  · exact hc
  · exact cC p hp
theorem off_L9 : True := by
  w_top off
  k_with_none
  (k_with "znz in" => first | with_reducible assumption | with_reducible exact List.mem_cons_self | ((with_reducible refine List.mem_cons_of_mem _ ?_); walk_at "nz in") | ((with_reducible refine List.mem_append_right _ ?_); walk_at "nz in") | ((with_reducible refine List.mem_append_left _ ?_); walk_at "nz in"))
  (k_with "znz hA" => exact rfl)
  (k_with "znz room" => (first | exact room1 (by with_reducible assumption) rfl | exact room2 (by with_reducible assumption) rfl | omega | ((try simp only [depth_under_make, depth_under_kw, depth_in1, depth_deeper]); (try dsimp only [nzA]); (try simp only [recursionLimit]); omega)))
  (k_with "znz units" => (first | exact room1 (by with_reducible assumption) rfl | exact room2 (by with_reducible assumption) rfl | omega | ((try simp only [units_in1, units_deeper, Around.mark_units]); (try dsimp only [nzA]); (try simp only [cLine]); omega)))
  (k_with "znz enter" => first | (refine' code_def ?q5k1 ?q5k2 ?q5k3 ?q5k4 ?q5k5 ?q5kA ?q5kF ?q5kK ?q5k6 ?q5k7 ?q5k8 ?q5k9 ?q5kB ?_ ?q5c2 ?q5c3 ?q5c4 ?q5c5; (case q5kA => walk_at "nz hA"); (case q5kF | q5kK => first | assumption | exact rfl); (case q5k1 | q5k2 | q5k3 | q5k4 | q5k5 => k_asm); (case q5k6 | q5k7 => k_is); (case q5k8 => walk_at "nz room"); (case q5k9 => exact BindsTo.of_eq rfl); (case q5c5 => decide); (case q5kB => exact locs rfl); (case q5c2 | q5c3 | q5c4 => exact rfl); k_whole; intro gpq5 Lpq5 hpq5 FGpq5 Fpq5 Npq5 Bpq5 Xpq5 Tpq5; (try dsimp only); (try k_lift Bpq5); (try k_fold); with_reducible refine anyE fun EE => ?_) | (refine' code_defC ?q5k1 ?q5k2 ?q5k3 ?q5k4 ?q5k5 ?q5kA ?q5kF ?q5kK ?q5k6 ?q5k7 ?q5k8 ?q5k9 ?q5kB ?q5kD ?_ ?q5c2 ?q5c3 ?q5c4; (case q5kA => walk_at "nz hA"); (case q5kF | q5kK => first | assumption | exact rfl); (case q5k1 | q5k2 | q5k3 | q5k4 | q5k5 => k_asm); (case q5k6 | q5k7 => k_is); (case q5k8 => walk_at "nz room"); (case q5k9 => exact BindsTo.of_eq rfl); (case q5kB => exact rfl); (case q5kD => decide +kernel); (case q5c2 | q5c3 | q5c4 => exact rfl); k_whole; intro gpq5 Lpq5 hpq5 tkpq5 cellspq5 FGpq5 Fpq5 Npq5 Ypq5 Bpq5 Xpq5 Tpq5 l1q5; (try k_lt l1q5); k_cells Ypq5; (try simp only [List.cons_append, List.nil_append] at Npq5); (try dsimp only); (try k_lift Bpq5); (try k_fold); with_reducible refine anyE fun EE => ?_))
  (k_with "zeval ListComp" => (k_here; refine Hold.go ?_))
  (k_with "zexec Assign cons ListComp" => (k_here; refine Hold.go ?_))
  (k_with "zcall ref" => (k_here; refine Hold.go ?_))
  (k_with "zexec For" => (k_here; refine Hold.go ?_))
  (k_with "znz fit" => (first | with_reducible assumption | exact fit_row (by with_reducible assumption) (by with_reducible assumption) | exact lt_len (by with_reducible assumption) (by with_reducible assumption) | omega | ((try simp only [List.length_map, List.length_cons, List.length_nil, List.size_toArray]); omega)))
  (k_with "zcall builtin:len" => (k_here; (with_reducible show wpAny _ _ (call (Value.builtin "len") [Value.ref _]) _ _ _); k_dflt (refine' nz_len ?q11N ?q11m ?q11f ?_; (case q11N => k_asm); (case q11m => k_mem); (case q11f => walk_at "nz fit"); k_whole)))
  (k_with "zsubscriptTail" => (k_here; (with_reducible show wpAny _ _ (subscriptTail _ _ (Value.ref _) (Value.int _ _)) _ _ _); k_dflt (refine' nz_item ?q12N ?q12m ?q12a ?q12b ?q12f ?_ ?q12k; (case q12N => k_asm); (case q12m => k_mem); (case q12a | q12b | q12f => walk_at "nz fit"); (case q12k => with_unfolding_all rfl); k_whole); intro vpq12 hvpq12))
  (k_with "zexecs cons" => (k_here; first | k_gentoks | (k_made; walk_at "execs cons") | (with_reducible refine cut_cons fun qk hqk => ?_)))
  (k_with "zQEnd" => (refine' behind_go ?q14h ?_; (case q14h => with_reducible assumption); dsimp only))
  (k_with "zeval Name" => (k_here; (with_reducible show wpAny _ _ (eval (Expr.Name _ _) (compEnvC _ _ _ _)) _ _ _); k_dflt (first | refine LCgL.ld_own (by k_asm) (by k_mem) (by assumption) (by assumption) ?_ | refine kcf_cell (by k_asm) (by rfl) (by k_mem) (by k_asm) ?_ | refine LCgL.ld_global (by k_asm) (by k_asm) (by k_asm) (by k_is) ?_ | refine LCgL.ld_built (by k_asm) (by k_asm) (by k_asm) (by k_is) (by boot_by_name) (by decide) ?_ | refine Hold.go ?_)))
  (k_with "zCompEnd" => (k_here; refine Hold.go ?_))
  (k_with "zCompSrc" => (k_here; refine Hold.go ?_))
  (k_with "znz sub" => first | with_reducible assumption | exact fun _ h => h | (intro p9q22 hp9q22; walk_at "nz in") | (intro p9q22 hp9q22; k_mem))
  (k_with "znz item" => (k_here; (with_reducible show wpAny _ _ (subscriptTail _ _ (Value.ref _) (Value.int _ _)) _ _ _); k_dflt (first | (refine' mat_item ?q23N ?q23m ?q23s ?q23a ?q23b ?q23f ?_ ?q23k; (case q23m => with_reducible assumption); (case q23N => k_asm); (case q23s => walk_at "nz sub"); (case q23a | q23b | q23f => walk_at "nz fit"); (case q23k => with_unfolding_all rfl); k_whole; intro bpq23 rowpq23 hrowpq23 hbrpq23; (try (have hlpq23 := Mat.getRow (by with_reducible assumption) hrowpq23))) | (refine' row_item ?q23N ?q23m ?q23s ?q23a ?q23b ?q23f ?_ ?q23k; (case q23m => with_reducible assumption); (case q23N => k_asm); (case q23s => walk_at "nz sub"); (case q23a | q23b | q23f => walk_at "nz fit"); (case q23k => with_unfolding_all rfl); k_whole; intro ipq23 tpq23 hipq23))))
  (k_with "zsubscriptTail" => walk_at "nz item")
  (k_with "zcall builtin:len" => (k_here; (with_reducible show wpAny _ _ (call (Value.builtin "len") [Value.ref _]) _ _ _); k_dflt (first | (refine' mat_len ?q25N ?q25m ?q25s ?q25f ?_; (case q25m => with_reducible assumption); (case q25N => k_asm); (case q25s => walk_at "nz sub"); (case q25f => walk_at "nz fit"); k_whole) | (refine' row_len ?q25N ?q25m ?q25s ?q25f ?_; (case q25m => with_reducible assumption); (case q25N => k_asm); (case q25s => walk_at "nz sub"); (case q25f => walk_at "nz fit"); k_whole))))
  (k_with "zcompareOp Eq ref ref" => (k_here; k_dflt (refine' mat_eq ?q26N ?q26a ?q26b ?q26c ?q26d ?q26u ?_; (case q26a | q26c => with_reducible assumption); (case q26N => k_asm); (case q26b | q26d => walk_at "nz sub"); (case q26u => walk_at "nz units"); k_whole)))
  (k_with "zcompareOp NotEq ref ref" => (k_here; k_dflt (refine' mat_ne ?q27N ?q27a ?q27b ?q27c ?q27d ?q27u ?_; (case q27a | q27c => with_reducible assumption); (case q27N => k_asm); (case q27b | q27d => walk_at "nz sub"); (case q27u => walk_at "nz units"); k_whole)))
  (k_with "zcall type:list" => (k_here; (with_reducible show wpAny _ _ (call (Value.type _) [Value.ref _]) _ _ _); k_dflt (refine' row_copy ?q29F ?q29N ?q29m ?q29s ?q29f ?_; (case q29m => with_reducible assumption); (case q29F | q29N => k_asm); (case q29s => walk_at "nz sub"); (case q29f => walk_at "nz fit"); k_whole); intro Dpq29 opq29 hpq29 Fpq29 Npq29 l1pq29 hDpq29; (have nzqpq29 := l1pq29); (k_lt l1pq29); (try k_sweep); (try dsimp only)))
  (k_with "zsubscriptTail Name Slice ref ref" => (k_here; (with_reducible show wpAny _ _ (subscriptTail _ (PySem.Expr.Slice none none (some _) _) (Value.ref _) (Value.ref _)) _ _ _); k_dflt (first | (refine' row_rev ?q30F ?q30N ?q30m ?q30s ?q30f ?q30k ?_ ?q30e ?q30t; (case q30m => with_reducible assumption); (case q30F | q30N => k_asm); (case q30s => walk_at "nz sub"); (case q30f => walk_at "nz fit"); (case q30k => exact IsPart.int _ _); (case q30e => with_unfolding_all rfl); (case q30t => kmk_pure)) | (refine' mat_rev ?q30F ?q30N ?q30m ?q30s ?q30f ?q30k ?_ ?q30e ?q30t; (case q30m => with_reducible assumption); (case q30F | q30N => k_asm); (case q30s => walk_at "nz sub"); (case q30f => walk_at "nz fit"); (case q30k => exact IsPart.int _ _); (case q30e => with_unfolding_all rfl); (case q30t => kmk_pure))); intro Dpq30 opq30 hpq30 Fpq30 Npq30 l1pq30 hDpq30; (have nzqpq30 := l1pq30); (k_lt l1pq30); (try k_sweep); (try dsimp only)))
  (k_with "zEltEnd" => (k_here; refine Hold.go ?_))
  (k_with "zTurnC" => (k_here; refine Hold.go ?_))
  (k_with "zpyIter ref" => (k_here; refine Hold.go ?_))
  (k_with "zTurnU" => (k_here; refine Hold.go ?_))
  (k_with "zexec For Name Call cons nil" => (k_here; k_dflt (refine wpAny_For ?_)))
  (k_with "zexec For" => (k_here; k_dflt (refine wpAny_For ?_)))
  (k_with "zcompareOp Eq ref ref" => (k_here; k_dflt (refine' mat_eqNil ?q40N ?q40a ?q40b ?q40c ?q40u ?_; (case q40a => with_reducible assumption); (case q40N => k_asm); (case q40b => walk_at "nz sub"); (case q40c => k_mem); (case q40u => walk_at "nz units"); k_whole)))
  (k_with "zcompareOp Eq ref ref" => (k_here; k_dflt (refine' mat_neNil ?q41N ?q41a ?q41b ?q41e ?q41c ?q41u ?_; (case q41a | q41e => with_reducible assumption); (case q41N => k_asm); (case q41b => walk_at "nz sub"); (case q41c => k_mem); (case q41u => walk_at "nz units"); k_whole)))
  (k_with "zcompareOp Eq ref ref" => (k_here; k_dflt (refine' mat_eq ?q42N ?q42a ?q42b ?q42c ?q42d ?q42u ?_; (case q42a | q42c => with_reducible assumption); (case q42N => k_asm); (case q42b | q42d => walk_at "nz sub"); (case q42u => walk_at "nz units"); k_whole)))
  (k_with "zexec Raise" => (k_here; refine Hold.go ?_))
  (k_with "znz dec" => ((try simp only [beq_iff_eq, bne_iff_ne, decide_eq_true_eq, ne_eq, Bool.not_eq_true', Bool.not_eq_true]); omega))
  (k_with "zite" => (k_here; k_dflt (first | refine ite_pos (by walk_at "nz dec") ?_ | refine ite_neg (by walk_at "nz dec") ?_)))
  (k_with "znz subs" => first | walk_at "nz item" | (k_here; k_dflt (first | ((with_reducible show wpAny _ _ (subscriptTail _ _ (Value.ref _) (Value.int 0 _)) _ _ _); refine' nz_pair0 ?q48N ?q48m ?_ ?q48k; (case q48N => k_asm); (case q48m => k_mem); (case q48k => with_unfolding_all rfl); k_whole) | ((with_reducible show wpAny _ _ (subscriptTail _ _ (Value.ref _) (Value.int 1 _)) _ _ _); refine' nz_pair1 ?q48N ?q48m ?_ ?q48k; (case q48N => k_asm); (case q48m => k_mem); (case q48k => with_unfolding_all rfl); k_whole))))
  (k_with "zsubscriptTail Name" => walk_at "nz subs")
  (k_with "zsubscriptTail Subscript" => walk_at "nz subs")
  (k_with "zSrcK" => (k_here; refine Hold.go ?_))
  (k_with "zexecs cons" => (k_here; first | k_gentoks | (k_made; walk_at "execs cons") | (with_reducible refine wpAny_execs_cons ?_; (try dsimp only))))
  (k_with "zcall ref" => (k_here; k_dflt (refine' plane_t ?q56B ?q56F ?q56X ?q56T ?q56hf ?q56hk ?q56N ?q56hd ?q56hu ?_; (case q56B | q56F | q56X | q56T => k_asm); (case q56hf | q56hk => first | assumption | exact rfl); (case q56N => k_asm); (case q56hd => walk_at "nz room"); (case q56hu => walk_at "nz units"); k_whole); intro xpq56 tlpq56 hpq56 tkpq56 hxpq56 hapq56 Fpq56 Npq56; (try k_sweep); (try dsimp only)))
  (k_with "zexecs cons" => (k_here; exfalso; with_reducible contradiction))
  (k_with "zexec If" => (k_here; refine Hold.go ?_))
  (k_with "zIfEnd" => (k_here; refine Hold.go ?_))
  trivial
section
variable {w : World} {mean : ExcName → Option Value} {mg mb : Str → Option Value} {A₀ : Around} {dp un : Nat} {gd : Option (List Code)} {env : Env} {outer : List Env} {base h₀ : Heap} {L : Addr} {m : Str → Option Value} {s : Shared} {R : Result → Shared → Prop} {news : List (Addr × Obj)}
  (B : Below A₀ base outer h₀) (F : Fr h₀ L s.heap m) (X : (Mine.hd.heap_39 w.params).In h₀) (T : TopH mean mg mb h₀)
  (hf : env.frame = some L) (hk : env.scope.kind = .function)
include B F X T hf hk

theorem turned_t {x r : Addr} {M : List (List Int)} {W H : Int} {wd : Str} {tw : Tok} {n0 n1 : List (Addr × Obj)} (N : News h₀ L s.heap news) (hp : PlIn n0 x W H r) (hp0 : ∀ p ∈ n0, p ∈ news) (hM : DatIn n1 (.ref r) (matD M)) (hM0 : ∀ p ∈ n1, p ∈ news) (hMat : Mat M W H) (hw : pFl wd = true ∨ pSt wd = true) (hd : dp + 4 ≤ 400) (hu : un + 80 ≤ 1000)
    (ret : ∀ (x' r' : Addr) tl h' tk', PlIn tl x' (if pTr wd = true then H else W) (if pTr wd = true then W else H) r' → DatIn tl (.ref r') (matD (turnM wd M W)) → Apart tl news → Fr h₀ L h' m → News h₀ L h' (tl ++ news) → R (.ok (.ret (.ref x'))) { s with heap := h', toks := tk' }) :
    codeAny (model PySem.Challenge.pw_nz0241_01 w) (nzA dp un gd env outer) (.call (.ref 117) ⟨[.ref x, .str wd tw], []⟩) R s := by
  replace hM := hM.mono hM0
  replace hp := hp.mono hp0
  obtain ⟨q1, q2, q3, q4, q5, q6⟩ := id hMat
  have hne := hMat.ne
  obtain ⟨dx, e1, e2, e3, e4, e5, e6, e7, e8, e9, hx, hdx⟩ := id hp
  k_dflt (refine' code_defC ?k1 ?k2 ?k3 ?k4 ?k5 ?kA ?kF ?kK ?k6 ?k7 ?k8 ?k9 ?kB ?kD ?_ ?c2 ?c3 ?c4; (case kA => exact rfl); (case kF => first | assumption | exact rfl); (case kK => first | assumption | exact rfl); (case k1 => k_asm); (case k2 => k_asm); (case k3 => k_asm); (case k4 => k_asm); (case k5 => k_asm); (case k6 => k_is); (case k7 => k_is); (case k8 => walk_at "nz room"); (case k9 => exact BindsTo.of_eq rfl); (case kB => exact rfl); (case kD => decide +kernel); (case c2 => exact rfl); (case c3 => exact rfl); (case c4 => exact rfl); k_whole; intro g1 L1 h1 tk1 cells1 FG1 F1 N1 Y1 B1 X1 T1 l1; (try k_lt l1); obtain ⟨oc1, hE, dc1⟩ := CellsAre.one Y1; subst hE; (try simp only [List.cons_append, List.nil_append] at N1); (try dsimp only); (try k_lift B1); (try k_fold); with_reducible refine anyE fun EE => ?_)

  k_steps
  unfold Hold
  k_dflt (refine wpAny_Assign_Name ?_)
  k_steps
  unfold Hold
  k_dflt (refine LCg.ListComp_U (F₀ := by k_asm) (by with_unfolding_all rfl) (by decide) (by rfl) (by decide) (by rfl) ?_)
  k_steps
  unfold Hold
  (rename News _ _ _ _ => N8)
  k_dflt (refine src_mat rowD (by rfl) (by k_asm) N8 hM (by walk_at "nz sub") (by omega) ?_ ?_)

  · intro g2 i2 tl2 b2 row2 I2 oI2 C2 oC2 D2 oD2 m2 h2 tk3 E2 hrow2 hb2 hC2 hx2 F2 N2 off2 ne2 ha2
    have hl2 := hMat.getRow hrow2
    k_steps
    exact Hold.out (eltEnd_one (by k_asm) (by k_asm) (by assumption) (by assumption))
  · intro g2 ys2 tl2 hyl2 hds2 hap2
    intro D2 h2 tk2 F2 N2 off2
    obtain ⟨hD2, hA2⟩ := comp_fin hds2 hap2 off2
    have hnb : ∀ p ∈ news, @Ne Nat p.1 (L1 + 1) := off_of l1 (Nat.le_succ _)
    obtain ⟨tA, hDA, NA, cA, hAA⟩ := to_head (mid := []) hD2 N2 hA2 hnb
    clear N2 hD2 hA2 hds2 hap2 off2
    k_steps
    unfold Hold
    (rename News _ _ _ _ => N7)
    (rename Fr _ _ _ _ => F7)
    obtain ⟨o7, N7, d7⟩ : ∃ o, News g1 L1 _ ((L1 + 1, o) :: (tA ++ news)) ∧ o.data = .cell (some (.ref D2)) := ⟨_, N7, by assumption⟩
    k_dflt (refine ifCut (c := L1 + 1) (nb := news) (M' := if pTr wd = true then trM M W else M) (s₁ := s) F7 ?_ ?_)
    · k_dflt (refine wpAny_If ?_)
      k_steps
      · (rename (([Str.ofString "left", Str.ofString "right", Str.ofString "swap", Str.ofString "cross"].any fun x => x == wd) = _) => ht9)
        have hT : pTr wd = true := ht9
        rw [if_pos hT]
        unfold Hold
        k_dflt (refine wpAny_Assign_Name ?_)
        k_steps
        unfold Hold
        (rename Fr _ _ _ _ => F8)
        k_dflt (refine ListComp_KK F8 (by with_unfolding_all rfl) (fun _ => rfl) (fun _ => rfl) (fun _ _ => rfl) (by rfl) (by decide) ?_ (fun _ => rfl))
        k_steps
        unfold Hold
        (rename News _ _ _ _ => N8)
        (rename Fr _ _ _ _ => F8)
        replace N8 : News g1 L1 _ ((L1 + 1, o7) :: (tA ++ news)) := newsSub N8 (by intro p hp; walk_at "nz in")
        refine ⟨_, _, _, _, _, _, fun i => rowD (M.map fun row => row.getD i 0), rfl, rfl, F8, N8, by assumption, by omega, by omega, ?_, ?_⟩
        · intro g i tl k tk0 I oI K oK C oC D oD h tk E' hi hk9 hoK F' N' ha
          k_steps
          unfold Hold
          k_dflt (refine LCg.ListComp_U (F₀ := by k_asm) (by with_unfolding_all rfl) (by decide) (by rfl) (by decide) (by rfl) ?_)
          k_steps
          unfold Hold
          (rename News _ _ _ _ => N8)
          k_dflt (refine src_mat (fun row => Dat.int (row.getD i 0)) (by rfl) (by k_asm) N8 hDA (by walk_at "nz sub") (by omega) ?_ ?_)

          · intro g2 i2 tl2 b2 row2 I2 oI2 C2 oC2 D2 oD2 m2 h2 tk3 E2 hrow2 hb2 hC2 hx2 F2 N2 off2 ne2 ha2
            have hl2 := hMat.getRow hrow2
            k_steps
            (rename (row2[_]? = some _) => hi9)
            exact Hold.out (eltEnd_int F2 N2 (by rw [hk9] at hi9; simp at hi9; simp [List.getD_eq_getElem?_getD, hi9]))
          · intro g2 ys2 tl2 hyl2 hds2 hap2
            intro D2 h2 tk2 F2 N2 off2
            obtain ⟨hD2, hA2⟩ := comp_fin hds2 hap2 off2
            have hD2' : DatIn ((D2, LCg.lst ys2) :: tl2) (.ref D2) (rowD (M.map fun row => row.getD i 0)) := by
              unfold rowD; rw [List.map_map]; exact hD2
            first | exact eltEnd_comp F2 N2 hD2' hA2 | exact Hold.out (eltEnd_comp F2 N2 hD2' hA2)
        · intro g2 ys2 tl2 hyl2 hds2 hap2
          intro D2 h2 tk2 F2 N2 off2
          obtain ⟨hD2, hA2⟩ := comp_fin hds2 hap2 off2
          have hD2' : DatIn ((D2, LCg.lst ys2) :: tl2) (.ref D2) (matD (trM M W)) := by
            unfold matD trM; rw [List.map_map]; exact hD2
          obtain ⟨tB, hDB, NB, cB, hAB⟩ := to_head hD2' N2 hA2 hnb
          clear N2
          k_steps
          (rename News _ _ _ _ => N9)
          (rename Fr _ _ _ _ => F9)
          exact Hold.out ⟨rfl, _, _, _, _, tB, rfl, by assumption, hDB, cB, hAB, F9, N9⟩
      · (rename (([Str.ofString "left", Str.ofString "right", Str.ofString "swap", Str.ofString "cross"].any fun x => x == wd) = _) => ht9)
        have hT : ¬ pTr wd = true := by rw [show pTr wd = false from ht9]; decide
        rw [if_neg hT]
        (rename News _ _ _ _ => N9)
        (rename Fr _ _ _ _ => F9)
        exact Hold.out ⟨rfl, _, _, o7, _, tA, rfl, d7, hDA, cA, hAA, F9, newsSub N9 (by intro p hp; walk_at "nz in")⟩
    · rintro f s₂ ⟨rfl, h3, tk3, o3, r3, tB, rfl, d3, hDB, cB, hAB, F3, N3⟩
      have hMat1 := hMat.tr.iteB (b := pTr wd) hMat
      have eT : turnM wd M W = if pFl wd = true then (if pMi wd = true then (if pTr wd = true then trM M W else M).map List.reverse else if pTr wd = true then trM M W else M).reverse
        else if pMi wd = true then (if pTr wd = true then trM M W else M).map List.reverse else if pTr wd = true then trM M W else M := rfl
      rw [eT] at ret
      generalize (if pTr wd = true then trM M W else M) = M1 at hMat1 hDB ret
      generalize (if pTr wd = true then H else W) = W1 at hMat1 ret
      generalize (if pTr wd = true then W else H) = H1 at hMat1 ret
      clear eT hDA cA hAA F7 N7 hx hdx hp hM hp0 hM0 q1 q2 q3 q4 q5 q6 hne
      obtain ⟨q1, q2, q3, q4, q5, q6⟩ := id hMat1
      have hne := hMat1.ne
      k_steps
      unfold Hold
      (rename Fr _ _ _ _ => F8)
      k_dflt (refine ifCut (c := L1 + 1) (nb := news) (M' := if pMi wd = true then M1.map List.reverse else M1) (s₁ := s) F8 ?_ ?_)
      · k_dflt (refine wpAny_If ?_)
        k_steps
        · (rename (([Str.ofString "back", Str.ofString "mirror", Str.ofString "right", Str.ofString "cross"].any fun x => x == wd) = _) => ht9)
          have hT : pMi wd = true := ht9
          rw [if_pos hT]
          unfold Hold
          k_dflt (refine wpAny_Assign_Name ?_)
          k_steps
          unfold Hold
          (rename News _ _ _ _ => N8)
          replace N8 : News g1 L1 _ ((L1 + 1, o3) :: (tB ++ news)) := newsSub N8 (by intro p hp; walk_at "nz in")
          k_dflt (refine LCg.ListComp_U (F₀ := by k_asm) (by with_unfolding_all rfl) (by decide) (by rfl) (by decide) (by rfl) ?_)
          k_steps
          unfold Hold
          (rename News _ _ _ _ => N8)
          k_dflt (refine src_mat (fun row => rowD row.reverse) (by rfl) (by k_asm) N8 hDB (by walk_at "nz sub") (by omega) ?_ ?_)
          · intro g2 i2 tl2 b2 row2 I2 oI2 C2 oC2 D2 oD2 m2 h2 tk3 E2 hrow2 hb2 hC2 hx2 F2 N2 off2 ne2 ha2
            have hl2 := hMat1.getRow hrow2
            k_steps
            exact Hold.out (eltEnd_one (by k_asm) (by k_asm) (by assumption) (by assumption))
          · intro g2 ys2 tl2 hyl2 hds2 hap2
            intro D2 h2 tk2 F2 N2 off2
            obtain ⟨hD2, hA2⟩ := comp_fin hds2 hap2 off2
            have hD2' : DatIn ((D2, LCg.lst ys2) :: tl2) (.ref D2) (matD (M1.map List.reverse)) := by
              unfold matD; rw [List.map_map]; exact hD2
            obtain ⟨tC, hDC, NC, cC, hAC⟩ := to_head hD2' N2 hA2 hnb
            clear N2
            k_steps
            (rename News _ _ _ _ => N9)
            (rename Fr _ _ _ _ => F9)
            exact Hold.out ⟨rfl, _, _, _, _, tC, rfl, by assumption, hDC, cC, hAC, F9, N9⟩
        · (rename (([Str.ofString "back", Str.ofString "mirror", Str.ofString "right", Str.ofString "cross"].any fun x => x == wd) = _) => ht9)
          have hT : ¬ pMi wd = true := by rw [show pMi wd = false from ht9]; decide
          rw [if_neg hT]
          (rename News _ _ _ _ => N9)
          (rename Fr _ _ _ _ => F9)
          exact Hold.out ⟨rfl, _, _, o3, _, tB, rfl, d3, hDB, cB, hAB, F9, newsSub N9 (by intro p hp; walk_at "nz in")⟩
      · clear F8
        rintro f s₂ ⟨rfl, h4, tk4, o4, r4, tC, rfl, d4, hDC, cC, hAC, F4, N4⟩
        have hMat2 := hMat1.mi.iteB (b := pMi wd) hMat1
        rw [ite_self, ite_self] at hMat2
        generalize (if pMi wd = true then M1.map List.reverse else M1) = M2 at hMat2 hDC ret
        clear hDB N3 cB hAB q1 q2 q3 q4 q5 q6 hne hMat1
        obtain ⟨q1, q2, q3, q4, q5, q6⟩ := id hMat2
        have hne := hMat2.ne
        k_steps
        unfold Hold
        (rename Fr _ _ _ _ => F8)
        k_dflt (refine ifCut (c := L1 + 1) (nb := news) (M' := if pFl wd = true then M2.reverse else M2) (s₁ := s) F8 ?_ ?_)
        · k_dflt (refine wpAny_If ?_)
          k_steps
          · (rename (([Str.ofString "back", Str.ofString "flip", Str.ofString "left", Str.ofString "cross"].any fun x => x == wd) = _) => ht9)
            have hT : pFl wd = true := ht9
            rw [if_pos hT]
            (rename (DatIn (_ :: tC) _ _) => hDR)
            (rename (∀ q : Addr × Obj, q ∈ _ → q.1 < _) => nz9)
            (rename News _ _ _ _ => N9)
            (rename Fr _ _ _ _ => F9)
            (rename (_ = Data.cell _) => d9)
            obtain ⟨cD, hAD⟩ := rev_end (o := _) (fun q hq => nz9 q (.tail _ (.tail _ (List.mem_append_right _ hq)))) (Nat.ne_of_gt (nz9 _ (.tail _ (.head _)))) cC hAC
            refine Hold.out ⟨rfl, _, _, _, _, _, rfl, d9, hDR, cD, hAD, F9, newsSub N9 fun p hp => ?_⟩
            simp only [List.mem_cons, List.mem_append, List.cons_append] at hp ⊢
            rcases hp with h | h | h | h <;> simp [h]
          · (rename (([Str.ofString "back", Str.ofString "flip", Str.ofString "left", Str.ofString "cross"].any fun x => x == wd) = _) => ht9)
            have hF : pFl wd = false := ht9
            have hT : ¬ pFl wd = true := by rw [hF]; decide
            rw [if_neg hT]
            unfold Hold
            have hS : ([Str.ofString "stay", Str.ofString "mirror", Str.ofString "right", Str.ofString "swap"].any fun x => x == wd) = true := by
              rcases hw with h | h
              · exact absurd h hT
              · exact h
            have hN1 : ¬ ([Str.ofString "stay", Str.ofString "mirror", Str.ofString "right", Str.ofString "swap"].any fun x => x == wd) = false := by rw [hS]; decide
            have hN2 : ¬ (!([Str.ofString "stay", Str.ofString "mirror", Str.ofString "right", Str.ofString "swap"].any fun x => x == wd)) = true := by rw [hS]; decide
            k_dflt (refine wpAny_If ?_)
            k_steps
            (rename News _ _ _ _ => N9)
            (rename Fr _ _ _ _ => F9)
            exact Hold.out ⟨rfl, _, _, o4, _, tC, rfl, d4, hDC, cC, hAC, F9, newsSub N9 (by intro p hp; walk_at "nz in")⟩
        · clear F8
          rintro f s₂ ⟨rfl, h5, tk5, o5, r5, tD, rfl, d5, hDD, cD, hAD, F5, N5⟩
          have hMat3 := hMat2.fl.iteB (b := pFl wd) hMat2
          rw [ite_self, ite_self] at hMat3
          generalize (if pFl wd = true then M2.reverse else M2) = M3 at hMat3 hDD ret
          clear hDC N4 cC hAC q1 q2 q3 q4 q5 q6 hne hMat2
          obtain ⟨q1, q2, q3, q4, q5, q6⟩ := id hMat3
          have hne := hMat3.ne
          k_steps
          (rename PlIn _ _ _ _ _ => hx9)
          (rename News _ _ _ _ => N7)
          (rename Fr _ _ _ _ => F7)
          (rename Apart _ _ => ha9)
          (rename (((List.length _ : Nat) : Int) = W1) => hl9)
          rw [hl9, q5] at hx9
          refine ret _ r5 (_ ++ tD) _ _ (hx9.mono fun p hp => List.mem_append_left _ hp) (hDD.mono fun p hp => List.mem_append_right _ hp) (Apart.app (fun p hp q hq => ha9 p hp q (.tail _ (List.mem_append_right _ hq))) hAD) F7 (newsSub N7 fun p hp => ?_)
          simp only [List.mem_append, List.mem_cons] at hp ⊢
          rcases hp with (h | h) | h <;> simp [h]

end
def gN (M : List (List Int)) (y x : Nat) : Int := (M.getD y []).getD x 0
theorem gN_row {M : List (List Int)} {W H : Int} (h : Mat M W H) {y : Nat} (hy : y < H.toNat) : ∃ row, M[y]? = some row ∧ row.length = W.toNat := by
  have hl := h.len
  have hy' : y < M.length := by omega
  exact ⟨M[y], List.getElem?_eq_getElem hy', by have := h.row _ (List.getElem_mem hy'); omega⟩
theorem gN_tr {M : List (List Int)} {W H : Int} (h : Mat M W H) {y x : Nat} (hy : y < W.toNat) (hx : x < H.toNat) : gN (trM M W) y x = gN M x y := by
  obtain ⟨row, e, hl⟩ := gN_row h hx
  simp [gN, trM, List.getD_eq_getElem?_getD, List.getElem?_map, List.getElem?_range hy, e]
theorem gN_mi {M : List (List Int)} {W H : Int} (h : Mat M W H) {y x : Nat} (hy : y < H.toNat) (hx : x < W.toNat) : gN (M.map List.reverse) y x = gN M y (W.toNat - 1 - x) := by
  obtain ⟨row, e, hl⟩ := gN_row h hy
  simp only [gN, List.getD_eq_getElem?_getD, List.getElem?_map, e, Option.map_some, Option.getD_some]
  rw [List.getElem?_reverse (by omega), hl]
theorem gN_fl {M : List (List Int)} {W H : Int} (h : Mat M W H) {y x : Nat} (hy : y < H.toNat) : gN M.reverse y x = gN M (H.toNat - 1 - y) x := by
  have hl := h.len
  simp only [gN, List.getD_eq_getElem?_getD]
  rw [List.getElem?_reverse (by omega), show M.length - 1 - y = H.toNat - 1 - y by omega]
theorem mat_ext {M N : List (List Int)} {W H : Int} (h : Mat M W H) (k : Mat N W H) (e : ∀ y x, y < H.toNat → x < W.toNat → gN M y x = gN N y x) : M = N := by
  have h1 := h.len
  have h2 := k.len
  apply List.ext_getElem (by omega)
  intro y hy hy'
  have r1 := h.row _ (List.getElem_mem hy)
  have r2 := k.row _ (List.getElem_mem hy')
  apply List.ext_getElem (by omega)
  intro x hx hx'
  have := e y x (by omega) (by omega)
  simpa [gN, List.getD_eq_getElem?_getD, List.getElem?_eq_getElem hy, List.getElem?_eq_getElem hy', List.getElem?_eq_getElem hx, List.getElem?_eq_getElem hx'] using this
theorem gN_law {wd : Str} {M : List (List Int)} {W H : Int} {y x : Nat} (hy : y < (if wTr wd = true then W else H).toNat) (hx : x < (if wTr wd = true then H else W).toNat) : gN (lawTurn wd M W H) y x = gN M (spotF wd x y W H).2.toNat (spotF wd x y W H).1.toNat := by
  simp [gN, lawTurn, List.getD_eq_getElem?_getD, List.getElem?_map, List.getElem?_range hy, List.getElem?_range hx, getM]
theorem lawTurn_mat {wd : Str} {M : List (List Int)} {W H : Int} (h : Mat M W H) : Mat (lawTurn wd M W H) (if wTr wd = true then H else W) (if wTr wd = true then W else H) where
  h1 := by have := h.h1; have := h.w1; split <;> omega
  h2 := by have := h.h2; have := h.w2; split <;> omega
  w1 := by have := h.h1; have := h.w1; split <;> omega
  w2 := by have := h.h2; have := h.w2; split <;> omega
  len := by have := h.h1; have := h.w1; simp only [lawTurn, List.length_map, List.length_range]; split <;> omega
  row := by
    intro r hr
    have := h.h1; have := h.w1
    simp only [lawTurn, List.mem_map] at hr
    obtain ⟨_, _, rfl⟩ := hr
    simp only [List.length_map, List.length_range]; split <;> omega
theorem turnM_mat {wd : Str} {M : List (List Int)} {W H : Int} (h : Mat M W H) : Mat (turnM wd M W) (if pTr wd = true then H else W) (if pTr wd = true then W else H) := by
  have h1 := h.tr.iteB (b := pTr wd) h
  have h2 := h1.mi.iteB (b := pMi wd) h1
  rw [ite_self, ite_self] at h2
  have h3 := h2.fl.iteB (b := pFl wd) h2
  rw [ite_self, ite_self] at h3
  exact h3
/-- the eight words -/
def words8 : List Str := [Str.ofString "stay", Str.ofString "left", Str.ofString "back", Str.ofString "right", Str.ofString "mirror", Str.ofString "flip", Str.ofString "swap", Str.ofString "cross"]
def oppW (wd : Str) : Str := if wd = Str.ofString "left" then Str.ofString "right" else if wd = Str.ofString "right" then Str.ofString "left" else wd
def gT (t m f : Bool) (M : List (List Int)) (W H : Nat) (y x : Nat) : Int :=
  let y1 := if f = true then (if t = true then W else H) - 1 - y else y
  let x1 := if m = true then (if t = true then H else W) - 1 - x else x
  if t = true then gN M x1 y1 else gN M y1 x1
theorem gN_turn {wd : Str} {M : List (List Int)} {W H : Int} (h : Mat M W H) {y x : Nat} (hy : y < (if pTr wd = true then W else H).toNat) (hx : x < (if pTr wd = true then H else W).toNat) :
    gN (turnM wd M W) y x = gT (pTr wd) (pMi wd) (pFl wd) M W.toNat H.toNat y x := by
  have h1 := h.tr.iteB (b := pTr wd) h
  have h2 := h1.mi.iteB (b := pMi wd) h1
  rw [ite_self, ite_self] at h2
  have eT : turnM wd M W = if pFl wd = true then (if pMi wd = true then (if pTr wd = true then trM M W else M).map List.reverse else if pTr wd = true then trM M W else M).reverse
    else if pMi wd = true then (if pTr wd = true then trM M W else M).map List.reverse else if pTr wd = true then trM M W else M := rfl
  rw [eT]
  unfold gT
  generalize pTr wd = t at *
  generalize pMi wd = m at *
  generalize pFl wd = f at *
  have hw := h.w1
  have hh := h.h1
  cases t <;> cases m <;> cases f <;> simp only [if_true, if_false, Bool.false_eq_true, reduceIte] at h1 h2 hy hx ⊢
  · rw [gN_fl h2 hy]
  · rw [gN_mi h1 hy hx]
  · rw [gN_fl h2 hy, gN_mi h1 (by omega) hx]
  · rw [gN_tr h hy hx]
  · rw [gN_fl h2 hy, gN_tr h (by omega) hx]
  · rw [gN_mi h1 hy hx, gN_tr h hy (by omega)]
  · rw [gN_fl h2 hy, gN_mi h1 (by omega) hx, gN_tr h (by omega) (by omega)]
theorem turn_law {wd : Str} {M : List (List Int)} {W H : Int} (hw : wd ∈ words8) (h : Mat M W H) : turnM wd M W = lawTurn wd M W H := by
  have a1 : (if pTr wd = true then H else W) = (if wTr wd = true then H else W) ∧ (if pTr wd = true then W else H) = (if wTr wd = true then W else H) := by
    simp only [words8, List.mem_cons, List.not_mem_nil, or_false] at hw
    rcases hw with rfl | rfl | rfl | rfl | rfl | rfl | rfl | rfl <;> exact ⟨rfl, rfl⟩
  have hm := turnM_mat (wd := wd) h
  rw [a1.1, a1.2] at hm
  refine mat_ext hm (lawTurn_mat h) fun y x hy hx => ?_
  rw [gN_law hy hx, gN_turn h (by rw [a1.2]; exact hy) (by rw [a1.1]; exact hx)]
  have hw1 := h.w1
  have hh1 := h.h1
  clear a1 hm
  simp only [words8, List.mem_cons, List.not_mem_nil, or_false] at hw
  rcases hw with rfl | rfl | rfl | rfl | rfl | rfl | rfl | rfl
  all_goals
    simp only [gT, spotF, show wTr (Str.ofString "stay") = false from rfl, show wTr (Str.ofString "left") = true from rfl, show wTr (Str.ofString "back") = false from rfl, show wTr (Str.ofString "right") = true from rfl, show wTr (Str.ofString "mirror") = false from rfl, show wTr (Str.ofString "flip") = false from rfl, show wTr (Str.ofString "swap") = true from rfl, show wTr (Str.ofString "cross") = true from rfl,
      show wMi (Str.ofString "stay") = false from rfl, show wMi (Str.ofString "left") = true from rfl, show wMi (Str.ofString "back") = true from rfl, show wMi (Str.ofString "right") = false from rfl, show wMi (Str.ofString "mirror") = true from rfl, show wMi (Str.ofString "flip") = false from rfl, show wMi (Str.ofString "swap") = false from rfl, show wMi (Str.ofString "cross") = true from rfl,
      show wFl (Str.ofString "stay") = false from rfl, show wFl (Str.ofString "left") = false from rfl, show wFl (Str.ofString "back") = true from rfl, show wFl (Str.ofString "right") = true from rfl, show wFl (Str.ofString "mirror") = false from rfl, show wFl (Str.ofString "flip") = true from rfl, show wFl (Str.ofString "swap") = false from rfl, show wFl (Str.ofString "cross") = true from rfl,
      show pTr (Str.ofString "stay") = false from rfl, show pTr (Str.ofString "left") = true from rfl, show pTr (Str.ofString "back") = false from rfl, show pTr (Str.ofString "right") = true from rfl, show pTr (Str.ofString "mirror") = false from rfl, show pTr (Str.ofString "flip") = false from rfl, show pTr (Str.ofString "swap") = true from rfl, show pTr (Str.ofString "cross") = true from rfl,
      show pMi (Str.ofString "stay") = false from rfl, show pMi (Str.ofString "left") = false from rfl, show pMi (Str.ofString "back") = true from rfl, show pMi (Str.ofString "right") = true from rfl, show pMi (Str.ofString "mirror") = true from rfl, show pMi (Str.ofString "flip") = false from rfl, show pMi (Str.ofString "swap") = false from rfl, show pMi (Str.ofString "cross") = true from rfl,
      show pFl (Str.ofString "stay") = false from rfl, show pFl (Str.ofString "left") = true from rfl, show pFl (Str.ofString "back") = true from rfl, show pFl (Str.ofString "right") = false from rfl, show pFl (Str.ofString "mirror") = false from rfl, show pFl (Str.ofString "flip") = true from rfl, show pFl (Str.ofString "swap") = false from rfl, show pFl (Str.ofString "cross") = true from rfl,
      if_true, if_false, Bool.false_eq_true, reduceIte, Int.toNat_natCast] at hy hx ⊢
    try (congr 1 <;> omega)
theorem two_turns {a b : Str} {M : List (List Int)} {W H : Int} (h : Mat M W H) {y x : Nat} (hy : y < (if pTr b = true then (if pTr a = true then H else W) else (if pTr a = true then W else H)).toNat) (hx : x < (if pTr b = true then (if pTr a = true then W else H) else (if pTr a = true then H else W)).toNat) :
    gN (turnM b (turnM a M W) (if pTr a = true then H else W)) y x =
      (let W' := (if pTr a = true then H else W).toNat; let H' := (if pTr a = true then W else H).toNat
       let y1 := if pFl b = true then (if pTr b = true then W' else H') - 1 - y else y
       let x1 := if pMi b = true then (if pTr b = true then H' else W') - 1 - x else x
       if pTr b = true then gT (pTr a) (pMi a) (pFl a) M W.toNat H.toNat x1 y1 else gT (pTr a) (pMi a) (pFl a) M W.toNat H.toNat y1 x1) := by
  have hm := turnM_mat (wd := a) h
  rw [gN_turn hm hy hx]
  unfold gT
  have := hm.w1; have := hm.h1
  dsimp only
  generalize pTr b = t at *
  generalize pMi b = m at *
  generalize pFl b = f at *
  cases t <;> cases m <;> cases f <;> simp only [if_true, if_false, Bool.false_eq_true, reduceIte] at hy hx ⊢ <;> rw [gN_turn h (by omega) (by omega)] <;> rfl
theorem turn_twice {a b c : Str} {M : List (List Int)} {W H : Int} (h : Mat M W H) (e1 : (if pTr b = true then (if pTr a = true then H else W) else (if pTr a = true then W else H)) = (if pTr c = true then W else H)) (e2 : (if pTr b = true then (if pTr a = true then W else H) else (if pTr a = true then H else W)) = (if pTr c = true then H else W))
    (e : ∀ y x, y < (if pTr c = true then W else H).toNat → x < (if pTr c = true then H else W).toNat → (let W' := (if pTr a = true then H else W).toNat; let H' := (if pTr a = true then W else H).toNat
       let y1 := if pFl b = true then (if pTr b = true then W' else H') - 1 - y else y
       let x1 := if pMi b = true then (if pTr b = true then H' else W') - 1 - x else x
       if pTr b = true then gT (pTr a) (pMi a) (pFl a) M W.toNat H.toNat x1 y1 else gT (pTr a) (pMi a) (pFl a) M W.toNat H.toNat y1 x1) = gT (pTr c) (pMi c) (pFl c) M W.toNat H.toNat y x) :
    turnM b (turnM a M W) (if pTr a = true then H else W) = turnM c M W := by
  have m1 := turnM_mat (wd := b) (turnM_mat (wd := a) h)
  rw [e1, e2] at m1
  refine mat_ext m1 (turnM_mat h) fun y x hy hx => ?_
  rw [two_turns h (by rw [e1]; exact hy) (by rw [e2]; exact hx), gN_turn h hy hx]
  exact e y x hy hx
theorem turn_right2 {M : List (List Int)} {W H : Int} (h : Mat M W H) : turnM (Str.ofString "right") (turnM (Str.ofString "right") M W) H = turnM (Str.ofString "back") M W :=
  turn_twice (a := Str.ofString "right") (b := Str.ofString "right") (c := Str.ofString "back") h rfl rfl fun y x hy hx => by
    have : gN M (H.toNat - 1 - y) (W.toNat - 1 - x) = gN M (H.toNat - 1 - y) (W.toNat - 1 - x) := rfl
    exact this
theorem turn_swap {M : List (List Int)} {W H : Int} (h : Mat M W H) : turnM (Str.ofString "mirror") (turnM (Str.ofString "right") M W) H = turnM (Str.ofString "swap") M W :=
  turn_twice (a := Str.ofString "right") (b := Str.ofString "mirror") (c := Str.ofString "swap") h rfl rfl fun y x hy hx => by
    have hx' : x < H.toNat := hx
    have : gN M (H.toNat - 1 - (H.toNat - 1 - x)) y = gN M x y := by rw [show H.toNat - 1 - (H.toNat - 1 - x) = x by omega]
    exact this
theorem turn_cross {M : List (List Int)} {W H : Int} (h : Mat M W H) : turnM (Str.ofString "mirror") (turnM (Str.ofString "left") M W) H = turnM (Str.ofString "cross") M W :=
  turn_twice (a := Str.ofString "left") (b := Str.ofString "mirror") (c := Str.ofString "cross") h rfl rfl fun y x hy hx => by
    have : gN M (H.toNat - 1 - x) (W.toNat - 1 - y) = gN M (H.toNat - 1 - x) (W.toNat - 1 - y) := rfl
    exact this
theorem stay_id {M : List (List Int)} {W : Int} : turnM (Str.ofString "stay") M W = M := rfl
theorem turn_opp {wd : Str} {M : List (List Int)} {W H : Int} (hw : wd ∈ words8) (h : Mat M W H) : turnM (oppW wd) (turnM wd M W) (if pTr wd = true then H else W) = M := by
  have hw1 := h.w1
  have hh1 := h.h1
  rw [← stay_id (M := M) (W := W)]
  simp only [words8, List.mem_cons, List.not_mem_nil, or_false] at hw
  rcases hw with rfl | rfl | rfl | rfl | rfl | rfl | rfl | rfl
  all_goals
    rw [stay_id]
    refine Eq.trans (turn_twice (c := Str.ofString "stay") h rfl rfl fun y x hy hx => ?_) stay_id
    have hy' : y < H.toNat := hy
    have hx' : x < W.toNat := hx
  · exact (rfl : gN M y x = gN M y x)
  · exact (show gN M y (W.toNat - 1 - (W.toNat - 1 - x)) = gN M y x by rw [show W.toNat - 1 - (W.toNat - 1 - x) = x by omega])
  · exact (show gN M (H.toNat - 1 - (H.toNat - 1 - y)) (W.toNat - 1 - (W.toNat - 1 - x)) = gN M y x by rw [show H.toNat - 1 - (H.toNat - 1 - y) = y by omega, show W.toNat - 1 - (W.toNat - 1 - x) = x by omega])
  · exact (show gN M (H.toNat - 1 - (H.toNat - 1 - y)) (x) = gN M y x by rw [show H.toNat - 1 - (H.toNat - 1 - y) = y by omega])
  · exact (show gN M y (W.toNat - 1 - (W.toNat - 1 - x)) = gN M y x by rw [show W.toNat - 1 - (W.toNat - 1 - x) = x by omega])
  · exact (show gN M (H.toNat - 1 - (H.toNat - 1 - y)) x = gN M y x by rw [show H.toNat - 1 - (H.toNat - 1 - y) = y by omega])
  · exact (rfl : gN M y x = gN M y x)
  · exact (show gN M (H.toNat - 1 - (H.toNat - 1 - y)) (W.toNat - 1 - (W.toNat - 1 - x)) = gN M y x by rw [show H.toNat - 1 - (H.toNat - 1 - y) = y by omega, show W.toNat - 1 - (W.toNat - 1 - x) = x by omega])
theorem off_NzAttr : True := by
  w_top off
  k_with_none
  (k_with "znz in" => first | with_reducible assumption | with_reducible exact List.mem_cons_self | ((with_reducible refine List.mem_cons_of_mem _ ?_); walk_at "nz in") | ((with_reducible refine List.mem_append_right _ ?_); walk_at "nz in") | ((with_reducible refine List.mem_append_left _ ?_); walk_at "nz in"))
  (k_with "znz hA" => exact rfl)
  (k_with "znz room" => (first | exact room1 (by with_reducible assumption) rfl | exact room2 (by with_reducible assumption) rfl | omega | ((try simp only [depth_under_make, depth_under_kw, depth_in1, depth_deeper]); (try dsimp only [nzA]); (try simp only [recursionLimit]); omega)))
  (k_with "znz units" => (first | exact room1 (by with_reducible assumption) rfl | exact room2 (by with_reducible assumption) rfl | omega | ((try simp only [units_in1, units_deeper, Around.mark_units]); (try dsimp only [nzA]); (try simp only [cLine]); omega)))
  (k_with "znz enter" => first | (refine' code_def ?q5k1 ?q5k2 ?q5k3 ?q5k4 ?q5k5 ?q5kA ?q5kF ?q5kK ?q5k6 ?q5k7 ?q5k8 ?q5k9 ?q5kB ?_ ?q5c2 ?q5c3 ?q5c4 ?q5c5; (case q5kA => walk_at "nz hA"); (case q5kF | q5kK => first | assumption | exact rfl); (case q5k1 | q5k2 | q5k3 | q5k4 | q5k5 => k_asm); (case q5k6 | q5k7 => k_is); (case q5k8 => walk_at "nz room"); (case q5k9 => exact BindsTo.of_eq rfl); (case q5c5 => decide); (case q5kB => exact locs rfl); (case q5c2 | q5c3 | q5c4 => exact rfl); k_whole; intro gpq5 Lpq5 hpq5 FGpq5 Fpq5 Npq5 Bpq5 Xpq5 Tpq5; (try dsimp only); (try k_lift Bpq5); (try k_fold); with_reducible refine anyE fun EE => ?_) | (refine' code_defC ?q5k1 ?q5k2 ?q5k3 ?q5k4 ?q5k5 ?q5kA ?q5kF ?q5kK ?q5k6 ?q5k7 ?q5k8 ?q5k9 ?q5kB ?q5kD ?_ ?q5c2 ?q5c3 ?q5c4; (case q5kA => walk_at "nz hA"); (case q5kF | q5kK => first | assumption | exact rfl); (case q5k1 | q5k2 | q5k3 | q5k4 | q5k5 => k_asm); (case q5k6 | q5k7 => k_is); (case q5k8 => walk_at "nz room"); (case q5k9 => exact BindsTo.of_eq rfl); (case q5kB => exact rfl); (case q5kD => decide +kernel); (case q5c2 | q5c3 | q5c4 => exact rfl); k_whole; intro gpq5 Lpq5 hpq5 tkpq5 cellspq5 FGpq5 Fpq5 Npq5 Ypq5 Bpq5 Xpq5 Tpq5 l1q5; (try k_lt l1q5); k_cells Ypq5; (try simp only [List.cons_append, List.nil_append] at Npq5); (try dsimp only); (try k_lift Bpq5); (try k_fold); with_reducible refine anyE fun EE => ?_))
  (k_with "zeval ListComp" => (k_here; refine Hold.go ?_))
  (k_with "zexec Assign cons ListComp" => (k_here; refine Hold.go ?_))
  (k_with "zcall ref" => (k_here; refine Hold.go ?_))
  (k_with "zexec For" => (k_here; refine Hold.go ?_))
  (k_with "znz fit" => (first | with_reducible assumption | exact fit_row (by with_reducible assumption) (by with_reducible assumption) | exact lt_len (by with_reducible assumption) (by with_reducible assumption) | omega | ((try simp only [List.length_map, List.length_cons, List.length_nil, List.size_toArray]); omega)))
  (k_with "zcall builtin:len" => (k_here; (with_reducible show wpAny _ _ (call (Value.builtin "len") [Value.ref _]) _ _ _); k_dflt (refine' nz_len ?q11N ?q11m ?q11f ?_; (case q11N => k_asm); (case q11m => k_mem); (case q11f => walk_at "nz fit"); k_whole)))
  (k_with "zsubscriptTail" => (k_here; (with_reducible show wpAny _ _ (subscriptTail _ _ (Value.ref _) (Value.int _ _)) _ _ _); k_dflt (refine' nz_item ?q12N ?q12m ?q12a ?q12b ?q12f ?_ ?q12k; (case q12N => k_asm); (case q12m => k_mem); (case q12a | q12b | q12f => walk_at "nz fit"); (case q12k => with_unfolding_all rfl); k_whole); intro vpq12 hvpq12))
  (k_with "zexecs cons" => (k_here; first | k_gentoks | (k_made; walk_at "execs cons") | (with_reducible refine cut_cons fun qk hqk => ?_)))
  (k_with "zQEnd" => (refine' behind_go ?q14h ?_; (case q14h => with_reducible assumption); dsimp only))
  (k_with "zeval Name" => (k_here; (with_reducible show wpAny _ _ (eval (Expr.Name _ _) (compEnvC _ _ _ _)) _ _ _); k_dflt (first | refine LCgL.ld_own (by k_asm) (by k_mem) (by assumption) (by assumption) ?_ | refine kcf_cell (by k_asm) (by rfl) (by k_mem) (by k_asm) ?_ | refine LCgL.ld_global (by k_asm) (by k_asm) (by k_asm) (by k_is) ?_ | refine LCgL.ld_built (by k_asm) (by k_asm) (by k_asm) (by k_is) (by boot_by_name) (by decide) ?_ | refine Hold.go ?_)))
  (k_with "zCompEnd" => (k_here; refine Hold.go ?_))
  (k_with "zCompSrc" => (k_here; refine Hold.go ?_))
  (k_with "znz sub" => first | with_reducible assumption | exact fun _ h => h | (intro p9q22 hp9q22; walk_at "nz in") | (intro p9q22 hp9q22; k_mem))
  (k_with "znz item" => (k_here; (with_reducible show wpAny _ _ (subscriptTail _ _ (Value.ref _) (Value.int _ _)) _ _ _); k_dflt (first | (refine' mat_item ?q23N ?q23m ?q23s ?q23a ?q23b ?q23f ?_ ?q23k; (case q23m => with_reducible assumption); (case q23N => k_asm); (case q23s => walk_at "nz sub"); (case q23a | q23b | q23f => walk_at "nz fit"); (case q23k => with_unfolding_all rfl); k_whole; intro bpq23 rowpq23 hrowpq23 hbrpq23; (try (have hlpq23 := Mat.getRow (by with_reducible assumption) hrowpq23))) | (refine' row_item ?q23N ?q23m ?q23s ?q23a ?q23b ?q23f ?_ ?q23k; (case q23m => with_reducible assumption); (case q23N => k_asm); (case q23s => walk_at "nz sub"); (case q23a | q23b | q23f => walk_at "nz fit"); (case q23k => with_unfolding_all rfl); k_whole; intro ipq23 tpq23 hipq23))))
  (k_with "zsubscriptTail" => walk_at "nz item")
  (k_with "zcall builtin:len" => (k_here; (with_reducible show wpAny _ _ (call (Value.builtin "len") [Value.ref _]) _ _ _); k_dflt (first | (refine' mat_len ?q25N ?q25m ?q25s ?q25f ?_; (case q25m => with_reducible assumption); (case q25N => k_asm); (case q25s => walk_at "nz sub"); (case q25f => walk_at "nz fit"); k_whole) | (refine' row_len ?q25N ?q25m ?q25s ?q25f ?_; (case q25m => with_reducible assumption); (case q25N => k_asm); (case q25s => walk_at "nz sub"); (case q25f => walk_at "nz fit"); k_whole))))
  (k_with "zcompareOp Eq ref ref" => (k_here; k_dflt (refine' mat_eq ?q26N ?q26a ?q26b ?q26c ?q26d ?q26u ?_; (case q26a | q26c => with_reducible assumption); (case q26N => k_asm); (case q26b | q26d => walk_at "nz sub"); (case q26u => walk_at "nz units"); k_whole)))
  (k_with "zcompareOp NotEq ref ref" => (k_here; k_dflt (refine' mat_ne ?q27N ?q27a ?q27b ?q27c ?q27d ?q27u ?_; (case q27a | q27c => with_reducible assumption); (case q27N => k_asm); (case q27b | q27d => walk_at "nz sub"); (case q27u => walk_at "nz units"); k_whole)))
  (k_with "zcall type:list" => (k_here; (with_reducible show wpAny _ _ (call (Value.type _) [Value.ref _]) _ _ _); k_dflt (refine' row_copy ?q29F ?q29N ?q29m ?q29s ?q29f ?_; (case q29m => with_reducible assumption); (case q29F | q29N => k_asm); (case q29s => walk_at "nz sub"); (case q29f => walk_at "nz fit"); k_whole); intro Dpq29 opq29 hpq29 Fpq29 Npq29 l1pq29 hDpq29; (have nzqpq29 := l1pq29); (k_lt l1pq29); (try k_sweep); (try dsimp only)))
  (k_with "zsubscriptTail Name Slice ref ref" => (k_here; (with_reducible show wpAny _ _ (subscriptTail _ (PySem.Expr.Slice none none (some _) _) (Value.ref _) (Value.ref _)) _ _ _); k_dflt (first | (refine' row_rev ?q30F ?q30N ?q30m ?q30s ?q30f ?q30k ?_ ?q30e ?q30t; (case q30m => with_reducible assumption); (case q30F | q30N => k_asm); (case q30s => walk_at "nz sub"); (case q30f => walk_at "nz fit"); (case q30k => exact IsPart.int _ _); (case q30e => with_unfolding_all rfl); (case q30t => kmk_pure)) | (refine' mat_rev ?q30F ?q30N ?q30m ?q30s ?q30f ?q30k ?_ ?q30e ?q30t; (case q30m => with_reducible assumption); (case q30F | q30N => k_asm); (case q30s => walk_at "nz sub"); (case q30f => walk_at "nz fit"); (case q30k => exact IsPart.int _ _); (case q30e => with_unfolding_all rfl); (case q30t => kmk_pure))); intro Dpq30 opq30 hpq30 Fpq30 Npq30 l1pq30 hDpq30; (have nzqpq30 := l1pq30); (k_lt l1pq30); (try k_sweep); (try dsimp only)))
  (k_with "zEltEnd" => (k_here; refine Hold.go ?_))
  (k_with "zTurnC" => (k_here; refine Hold.go ?_))
  (k_with "zpyIter ref" => (k_here; refine Hold.go ?_))
  (k_with "zTurnU" => (k_here; refine Hold.go ?_))
  (k_with "zexec For Name Call cons nil" => (k_here; k_dflt (refine wpAny_For ?_)))
  (k_with "zexec For" => (k_here; k_dflt (refine wpAny_For ?_)))
  (k_with "zcompareOp Eq ref ref" => (k_here; k_dflt (refine' mat_eqNil ?q40N ?q40a ?q40b ?q40c ?q40u ?_; (case q40a => with_reducible assumption); (case q40N => k_asm); (case q40b => walk_at "nz sub"); (case q40c => k_mem); (case q40u => walk_at "nz units"); k_whole)))
  (k_with "zcompareOp Eq ref ref" => (k_here; k_dflt (refine' mat_neNil ?q41N ?q41a ?q41b ?q41e ?q41c ?q41u ?_; (case q41a | q41e => with_reducible assumption); (case q41N => k_asm); (case q41b => walk_at "nz sub"); (case q41c => k_mem); (case q41u => walk_at "nz units"); k_whole)))
  (k_with "zcompareOp Eq ref ref" => (k_here; k_dflt (refine' mat_eq ?q42N ?q42a ?q42b ?q42c ?q42d ?q42u ?_; (case q42a | q42c => with_reducible assumption); (case q42N => k_asm); (case q42b | q42d => walk_at "nz sub"); (case q42u => walk_at "nz units"); k_whole)))
  (k_with "zexec Raise" => (k_here; refine Hold.go ?_))
  (k_with "znz dec" => ((try simp only [beq_iff_eq, bne_iff_ne, decide_eq_true_eq, ne_eq, Bool.not_eq_true', Bool.not_eq_true]); omega))
  (k_with "zite" => (k_here; k_dflt (first | refine ite_pos (by walk_at "nz dec") ?_ | refine ite_neg (by walk_at "nz dec") ?_)))
  (k_with "znz subs" => first | walk_at "nz item" | (k_here; k_dflt (first | ((with_reducible show wpAny _ _ (subscriptTail _ _ (Value.ref _) (Value.int 0 _)) _ _ _); refine' nz_pair0 ?q48N ?q48m ?_ ?q48k; (case q48N => k_asm); (case q48m => k_mem); (case q48k => with_unfolding_all rfl); k_whole) | ((with_reducible show wpAny _ _ (subscriptTail _ _ (Value.ref _) (Value.int 1 _)) _ _ _); refine' nz_pair1 ?q48N ?q48m ?_ ?q48k; (case q48N => k_asm); (case q48m => k_mem); (case q48k => with_unfolding_all rfl); k_whole))))
  (k_with "zsubscriptTail Name" => walk_at "nz subs")
  (k_with "zsubscriptTail Subscript" => walk_at "nz subs")
  (k_with "zSrcK" => (k_here; refine Hold.go ?_))
  trivial
theorem opp_get {wd : Str} {t1 t2 t3 t4 : Tok} : (Spec.lookup (PyData.str wd) (strData [(.str (Str.ofString "left") t1, .str (Str.ofString "right") t2), (.str (Str.ofString "right") t3, .str (Str.ofString "left") t4)])).getD (PyData.str wd) = PyData.str (oppW wd) := by
  simp only [strData, datumOf, Option.getD_some, Spec.lookup, oppW]
  have e : ∀ a b : Str, Spec.same (.str a) (.str b) = (a == b) := fun a b => by simp [Spec.same]
  simp only [e, beq_iff_eq]
  by_cases h1 : wd = Str.ofString "left"
  · rw [if_pos h1.symm, if_pos h1]; rfl
  · rw [if_neg (Ne.symm h1), if_neg h1]
    by_cases h2 : wd = Str.ofString "right"
    · rw [if_pos h2.symm, if_pos h2]; rfl
    · rw [if_neg (Ne.symm h2), if_neg h2]; rfl
section
variable {w : World} {mean : ExcName → Option Value} {mg mb : Str → Option Value} {A : Around} {E : Value → Shared → Prop} {Q : Value → Shared → Prop} {h₀ : Heap} {L : Addr} {m : Str → Option Value} {s : Shared} {news n0 : List (Addr × Obj)} {x r : Addr} {W H : Int}
theorem pl_rows (F : Fr h₀ L s.heap m) (X : (Mine.hd.heap_39 w.params).In h₀) (N : News h₀ L s.heap news) (hp : PlIn n0 x W H r) (hp0 : ∀ p ∈ n0, p ∈ news) (h : Q (.ref r) { s with toks := s.toks + 1 }) :
    wpAny (model PySem.Challenge.pw_nz0241_01 w) A (getAttr (.ref x) (Str.ofString "rows") true) Q E s := by
  obtain ⟨dx, e1, e2, e3, e4, e5, e6, e7, e8, e9, hx, hdx⟩ := hp.mono hp0
  k_steps
  exact h
theorem pl_width (F : Fr h₀ L s.heap m) (X : (Mine.hd.heap_39 w.params).In h₀) (N : News h₀ L s.heap news) (hp : PlIn n0 x W H r) (hp0 : ∀ p ∈ n0, p ∈ news) (h : ∀ t, Q (.int W t) { s with toks := s.toks + 1 }) :
    wpAny (model PySem.Challenge.pw_nz0241_01 w) A (getAttr (.ref x) (Str.ofString "width") true) Q E s := by
  obtain ⟨dx, e1, e2, e3, e4, e5, e6, e7, e8, e9, hx, hdx⟩ := hp.mono hp0
  k_steps
  exact h _
theorem pl_height (F : Fr h₀ L s.heap m) (X : (Mine.hd.heap_39 w.params).In h₀) (N : News h₀ L s.heap news) (hp : PlIn n0 x W H r) (hp0 : ∀ p ∈ n0, p ∈ news) (h : ∀ t, Q (.int H t) { s with toks := s.toks + 1 }) :
    wpAny (model PySem.Challenge.pw_nz0241_01 w) A (getAttr (.ref x) (Str.ofString "height") true) Q E s := by
  obtain ⟨dx, e1, e2, e3, e4, e5, e6, e7, e8, e9, hx, hdx⟩ := hp.mono hp0
  k_steps
  exact h _
end
theorem off_L10 : True := by
  w_top off
  k_with_none
  (k_with "znz in" => first | with_reducible assumption | with_reducible exact List.mem_cons_self | ((with_reducible refine List.mem_cons_of_mem _ ?_); walk_at "nz in") | ((with_reducible refine List.mem_append_right _ ?_); walk_at "nz in") | ((with_reducible refine List.mem_append_left _ ?_); walk_at "nz in"))
  (k_with "znz hA" => exact rfl)
  (k_with "znz room" => (first | exact room1 (by with_reducible assumption) rfl | exact room2 (by with_reducible assumption) rfl | omega | ((try simp only [depth_under_make, depth_under_kw, depth_in1, depth_deeper]); (try dsimp only [nzA]); (try simp only [recursionLimit]); omega)))
  (k_with "znz units" => (first | exact room1 (by with_reducible assumption) rfl | exact room2 (by with_reducible assumption) rfl | omega | ((try simp only [units_in1, units_deeper, Around.mark_units]); (try dsimp only [nzA]); (try simp only [cLine]); omega)))
  (k_with "znz enter" => first | (refine' code_def ?q5k1 ?q5k2 ?q5k3 ?q5k4 ?q5k5 ?q5kA ?q5kF ?q5kK ?q5k6 ?q5k7 ?q5k8 ?q5k9 ?q5kB ?_ ?q5c2 ?q5c3 ?q5c4 ?q5c5; (case q5kA => walk_at "nz hA"); (case q5kF | q5kK => first | assumption | exact rfl); (case q5k1 | q5k2 | q5k3 | q5k4 | q5k5 => k_asm); (case q5k6 | q5k7 => k_is); (case q5k8 => walk_at "nz room"); (case q5k9 => exact BindsTo.of_eq rfl); (case q5c5 => decide); (case q5kB => exact locs rfl); (case q5c2 | q5c3 | q5c4 => exact rfl); k_whole; intro gpq5 Lpq5 hpq5 FGpq5 Fpq5 Npq5 Bpq5 Xpq5 Tpq5; (try dsimp only); (try k_lift Bpq5); (try k_fold); with_reducible refine anyE fun EE => ?_) | (refine' code_defC ?q5k1 ?q5k2 ?q5k3 ?q5k4 ?q5k5 ?q5kA ?q5kF ?q5kK ?q5k6 ?q5k7 ?q5k8 ?q5k9 ?q5kB ?q5kD ?_ ?q5c2 ?q5c3 ?q5c4; (case q5kA => walk_at "nz hA"); (case q5kF | q5kK => first | assumption | exact rfl); (case q5k1 | q5k2 | q5k3 | q5k4 | q5k5 => k_asm); (case q5k6 | q5k7 => k_is); (case q5k8 => walk_at "nz room"); (case q5k9 => exact BindsTo.of_eq rfl); (case q5kB => exact rfl); (case q5kD => decide +kernel); (case q5c2 | q5c3 | q5c4 => exact rfl); k_whole; intro gpq5 Lpq5 hpq5 tkpq5 cellspq5 FGpq5 Fpq5 Npq5 Ypq5 Bpq5 Xpq5 Tpq5 l1q5; (try k_lt l1q5); k_cells Ypq5; (try simp only [List.cons_append, List.nil_append] at Npq5); (try dsimp only); (try k_lift Bpq5); (try k_fold); with_reducible refine anyE fun EE => ?_))
  (k_with "zeval ListComp" => (k_here; refine Hold.go ?_))
  (k_with "zexec Assign cons ListComp" => (k_here; refine Hold.go ?_))
  (k_with "zcall ref" => (k_here; refine Hold.go ?_))
  (k_with "zexec For" => (k_here; refine Hold.go ?_))
  (k_with "znz fit" => (first | with_reducible assumption | exact fit_row (by with_reducible assumption) (by with_reducible assumption) | exact lt_len (by with_reducible assumption) (by with_reducible assumption) | omega | ((try simp only [List.length_map, List.length_cons, List.length_nil, List.size_toArray]); omega)))
  (k_with "zcall builtin:len" => (k_here; (with_reducible show wpAny _ _ (call (Value.builtin "len") [Value.ref _]) _ _ _); k_dflt (refine' nz_len ?q11N ?q11m ?q11f ?_; (case q11N => k_asm); (case q11m => k_mem); (case q11f => walk_at "nz fit"); k_whole)))
  (k_with "zsubscriptTail" => (k_here; (with_reducible show wpAny _ _ (subscriptTail _ _ (Value.ref _) (Value.int _ _)) _ _ _); k_dflt (refine' nz_item ?q12N ?q12m ?q12a ?q12b ?q12f ?_ ?q12k; (case q12N => k_asm); (case q12m => k_mem); (case q12a | q12b | q12f => walk_at "nz fit"); (case q12k => with_unfolding_all rfl); k_whole); intro vpq12 hvpq12))
  (k_with "zexecs cons" => (k_here; first | k_gentoks | (k_made; walk_at "execs cons") | (with_reducible refine cut_cons fun qk hqk => ?_)))
  (k_with "zQEnd" => (refine' behind_go ?q14h ?_; (case q14h => with_reducible assumption); dsimp only))
  (k_with "zeval Name" => (k_here; (with_reducible show wpAny _ _ (eval (Expr.Name _ _) (compEnvC _ _ _ _)) _ _ _); k_dflt (first | refine LCgL.ld_own (by k_asm) (by k_mem) (by assumption) (by assumption) ?_ | refine kcf_cell (by k_asm) (by rfl) (by k_mem) (by k_asm) ?_ | refine LCgL.ld_global (by k_asm) (by k_asm) (by k_asm) (by k_is) ?_ | refine LCgL.ld_built (by k_asm) (by k_asm) (by k_asm) (by k_is) (by boot_by_name) (by decide) ?_ | refine Hold.go ?_)))
  (k_with "zCompEnd" => (k_here; refine Hold.go ?_))
  (k_with "zCompSrc" => (k_here; refine Hold.go ?_))
  (k_with "znz sub" => first | with_reducible assumption | exact fun _ h => h | (intro p9q22 hp9q22; walk_at "nz in") | (intro p9q22 hp9q22; k_mem))
  (k_with "znz item" => (k_here; (with_reducible show wpAny _ _ (subscriptTail _ _ (Value.ref _) (Value.int _ _)) _ _ _); k_dflt (first | (refine' mat_item ?q23N ?q23m ?q23s ?q23a ?q23b ?q23f ?_ ?q23k; (case q23m => with_reducible assumption); (case q23N => k_asm); (case q23s => walk_at "nz sub"); (case q23a | q23b | q23f => walk_at "nz fit"); (case q23k => with_unfolding_all rfl); k_whole; intro bpq23 rowpq23 hrowpq23 hbrpq23; (try (have hlpq23 := Mat.getRow (by with_reducible assumption) hrowpq23))) | (refine' row_item ?q23N ?q23m ?q23s ?q23a ?q23b ?q23f ?_ ?q23k; (case q23m => with_reducible assumption); (case q23N => k_asm); (case q23s => walk_at "nz sub"); (case q23a | q23b | q23f => walk_at "nz fit"); (case q23k => with_unfolding_all rfl); k_whole; intro ipq23 tpq23 hipq23))))
  (k_with "zsubscriptTail" => walk_at "nz item")
  (k_with "zcall builtin:len" => (k_here; (with_reducible show wpAny _ _ (call (Value.builtin "len") [Value.ref _]) _ _ _); k_dflt (first | (refine' mat_len ?q25N ?q25m ?q25s ?q25f ?_; (case q25m => with_reducible assumption); (case q25N => k_asm); (case q25s => walk_at "nz sub"); (case q25f => walk_at "nz fit"); k_whole) | (refine' row_len ?q25N ?q25m ?q25s ?q25f ?_; (case q25m => with_reducible assumption); (case q25N => k_asm); (case q25s => walk_at "nz sub"); (case q25f => walk_at "nz fit"); k_whole))))
  (k_with "zcompareOp Eq ref ref" => (k_here; k_dflt (refine' mat_eq ?q26N ?q26a ?q26b ?q26c ?q26d ?q26u ?_; (case q26a | q26c => with_reducible assumption); (case q26N => k_asm); (case q26b | q26d => walk_at "nz sub"); (case q26u => walk_at "nz units"); k_whole)))
  (k_with "zcompareOp NotEq ref ref" => (k_here; k_dflt (refine' mat_ne ?q27N ?q27a ?q27b ?q27c ?q27d ?q27u ?_; (case q27a | q27c => with_reducible assumption); (case q27N => k_asm); (case q27b | q27d => walk_at "nz sub"); (case q27u => walk_at "nz units"); k_whole)))
  (k_with "zcall type:list" => (k_here; (with_reducible show wpAny _ _ (call (Value.type _) [Value.ref _]) _ _ _); k_dflt (refine' row_copy ?q29F ?q29N ?q29m ?q29s ?q29f ?_; (case q29m => with_reducible assumption); (case q29F | q29N => k_asm); (case q29s => walk_at "nz sub"); (case q29f => walk_at "nz fit"); k_whole); intro Dpq29 opq29 hpq29 Fpq29 Npq29 l1pq29 hDpq29; (have nzqpq29 := l1pq29); (k_lt l1pq29); (try k_sweep); (try dsimp only)))
  (k_with "zsubscriptTail Name Slice ref ref" => (k_here; (with_reducible show wpAny _ _ (subscriptTail _ (PySem.Expr.Slice none none (some _) _) (Value.ref _) (Value.ref _)) _ _ _); k_dflt (first | (refine' row_rev ?q30F ?q30N ?q30m ?q30s ?q30f ?q30k ?_ ?q30e ?q30t; (case q30m => with_reducible assumption); (case q30F | q30N => k_asm); (case q30s => walk_at "nz sub"); (case q30f => walk_at "nz fit"); (case q30k => exact IsPart.int _ _); (case q30e => with_unfolding_all rfl); (case q30t => kmk_pure)) | (refine' mat_rev ?q30F ?q30N ?q30m ?q30s ?q30f ?q30k ?_ ?q30e ?q30t; (case q30m => with_reducible assumption); (case q30F | q30N => k_asm); (case q30s => walk_at "nz sub"); (case q30f => walk_at "nz fit"); (case q30k => exact IsPart.int _ _); (case q30e => with_unfolding_all rfl); (case q30t => kmk_pure))); intro Dpq30 opq30 hpq30 Fpq30 Npq30 l1pq30 hDpq30; (have nzqpq30 := l1pq30); (k_lt l1pq30); (try k_sweep); (try dsimp only)))
  (k_with "zEltEnd" => (k_here; refine Hold.go ?_))
  (k_with "zTurnC" => (k_here; refine Hold.go ?_))
  (k_with "zpyIter ref" => (k_here; refine Hold.go ?_))
  (k_with "zTurnU" => (k_here; refine Hold.go ?_))
  (k_with "zexec For Name Call cons nil" => (k_here; k_dflt (refine wpAny_For ?_)))
  (k_with "zexec For" => (k_here; k_dflt (refine wpAny_For ?_)))
  (k_with "zcompareOp Eq ref ref" => (k_here; k_dflt (refine' mat_eqNil ?q40N ?q40a ?q40b ?q40c ?q40u ?_; (case q40a => with_reducible assumption); (case q40N => k_asm); (case q40b => walk_at "nz sub"); (case q40c => k_mem); (case q40u => walk_at "nz units"); k_whole)))
  (k_with "zcompareOp Eq ref ref" => (k_here; k_dflt (refine' mat_neNil ?q41N ?q41a ?q41b ?q41e ?q41c ?q41u ?_; (case q41a | q41e => with_reducible assumption); (case q41N => k_asm); (case q41b => walk_at "nz sub"); (case q41c => k_mem); (case q41u => walk_at "nz units"); k_whole)))
  (k_with "zcompareOp Eq ref ref" => (k_here; k_dflt (refine' mat_eq ?q42N ?q42a ?q42b ?q42c ?q42d ?q42u ?_; (case q42a | q42c => with_reducible assumption); (case q42N => k_asm); (case q42b | q42d => walk_at "nz sub"); (case q42u => walk_at "nz units"); k_whole)))
  (k_with "zexec Raise" => (k_here; refine Hold.go ?_))
  (k_with "znz dec" => ((try simp only [beq_iff_eq, bne_iff_ne, decide_eq_true_eq, ne_eq, Bool.not_eq_true', Bool.not_eq_true]); omega))
  (k_with "zite" => (k_here; k_dflt (first | refine ite_pos (by walk_at "nz dec") ?_ | refine ite_neg (by walk_at "nz dec") ?_)))
  (k_with "znz subs" => first | walk_at "nz item" | (k_here; k_dflt (first | ((with_reducible show wpAny _ _ (subscriptTail _ _ (Value.ref _) (Value.int 0 _)) _ _ _); refine' nz_pair0 ?q48N ?q48m ?_ ?q48k; (case q48N => k_asm); (case q48m => k_mem); (case q48k => with_unfolding_all rfl); k_whole) | ((with_reducible show wpAny _ _ (subscriptTail _ _ (Value.ref _) (Value.int 1 _)) _ _ _); refine' nz_pair1 ?q48N ?q48m ?_ ?q48k; (case q48N => k_asm); (case q48m => k_mem); (case q48k => with_unfolding_all rfl); k_whole))))
  (k_with "zsubscriptTail Name" => walk_at "nz subs")
  (k_with "zsubscriptTail Subscript" => walk_at "nz subs")
  (k_with "zSrcK" => (k_here; refine Hold.go ?_))
  (k_with "zgetAttr ref" => (k_here; k_dflt (first | ((with_reducible show wpAny _ _ (getAttr (Value.ref _) (Str.ofString "rows") true) _ _ _); refine' pl_rows ?q60F ?q60X ?q60N ?q60hp ?q60s ?_; (case q60hp => with_reducible assumption); (case q60F | q60X | q60N => k_asm); (case q60s => walk_at "nz sub"); k_whole) | ((with_reducible show wpAny _ _ (getAttr (Value.ref _) (Str.ofString "width") true) _ _ _); refine' pl_width ?q60F ?q60X ?q60N ?q60hp ?q60s ?_; (case q60hp => with_reducible assumption); (case q60F | q60X | q60N => k_asm); (case q60s => walk_at "nz sub"); k_whole; intro wtpq60) | ((with_reducible show wpAny _ _ (getAttr (Value.ref _) (Str.ofString "height") true) _ _ _); refine' pl_height ?q60F ?q60X ?q60N ?q60hp ?q60s ?_; (case q60hp => with_reducible assumption); (case q60F | q60X | q60N => k_asm); (case q60s => walk_at "nz sub"); k_whole; intro wtpq60)); (try dsimp only)))
  (k_with "zcall ref" => (k_here; refine wpAny_call ?_; k_dflt (refine' turned_t ?q61B ?q61F ?q61X ?q61T ?q61hf ?q61hk ?q61N ?q61hp ?q61hp0 ?q61hM ?q61hM0 ?q61hMat ?q61hw ?q61hd ?q61hu ?_; (case q61B | q61F | q61X | q61T => k_asm); (case q61hf | q61hk => first | assumption | exact rfl); (case q61N => k_asm); (case q61hp => with_reducible assumption); (case q61hp0 => walk_at "nz sub"); (case q61hM => with_reducible assumption); (case q61hM0 => walk_at "nz sub"); (case q61hMat => first | with_reducible assumption | exact turnM_mat (by with_reducible assumption)); (case q61hw => first | with_reducible assumption | exact .inl rfl | exact .inr rfl); (case q61hd => walk_at "nz room"); (case q61hu => walk_at "nz units"); k_whole); intro xpq61 rpq61 tlpq61 hpq61 tkpq61 hppq61 hMpq61 hapq61 Fpq61 Npq61; (try simp only [pTr_right, pTr_left, pTr_mirror, pTr_back, pTr_swap, pTr_cross, if_true, if_false, reduceIte] at hppq61); skip; (try k_sweep); (try dsimp only)))
  (k_with "zcall ref" => (k_here; refine wpAny_call ?_; k_dflt (refine' lawTurned_t ?q62B ?q62F ?q62X ?q62T ?q62hf ?q62hk ?q62N ?q62hM ?q62hM0 ?q62hMat ?q62hd ?q62hu ?_; (case q62B | q62F | q62X | q62T => k_asm); (case q62hf | q62hk => first | assumption | exact rfl); (case q62N => k_asm); (case q62hM => with_reducible assumption); (case q62hM0 => walk_at "nz sub"); (case q62hMat => with_reducible assumption); (case q62hd => walk_at "nz room"); (case q62hu => walk_at "nz units"); k_whole); intro rpq62 tlpq62 hpq62 tkpq62 hMpq62 hapq62 Fpq62 Npq62; (rw [← turn_law (by assumption) (by assumption)] at hMpq62); (try k_sweep); (try dsimp only)))
  (k_with "zcompareOp NotEq ref ref" => (k_here; k_dflt (refine' mat_neSame ?q63N ?q63a ?q63b ?q63c ?q63d ?q63u ?_; (case q63a | q63c => with_reducible assumption); (case q63N => k_asm); (case q63b | q63d => walk_at "nz sub"); (case q63u => walk_at "nz units"); k_whole)))
  (k_with "zcall ref" => (k_here; refine wpAny_call ?_; k_dflt (refine' same_true ?q64B ?q64F ?q64X ?q64T ?q64hf ?q64hk ?q64N ?q64hp1 ?q64s1 ?q64hp2 ?q64s2 ?q64hM1 ?q64s3 ?q64hM2 ?q64s4 ?q64e ?q64hd ?q64hu ?_; (case q64B | q64F | q64X | q64T => k_asm); (case q64hf | q64hk => first | assumption | exact rfl); (case q64N => k_asm); (case q64hp1 | q64hp2 | q64hM1 | q64hM2 => with_reducible assumption); (case q64s1 | q64s2 | q64s3 | q64s4 => walk_at "nz sub"); (case q64e => refine ⟨?_, ?_, ?_⟩ <;> first | rfl | with_reducible assumption); (case q64hd => walk_at "nz room"); (case q64hu => walk_at "nz units"); k_whole); intro hpq64 tkpq64 Fpq64 Npq64; (try k_sweep); (try dsimp only)))
  trivial
section
variable {w : World} {mean : ExcName → Option Value} {mg mb : Str → Option Value} {A₀ : Around} {dp un : Nat} {gd : Option (List Code)} {env : Env} {outer : List Env} {base h₀ : Heap} {L : Addr} {m : Str → Option Value} {s : Shared} {R : Result → Shared → Prop} {news : List (Addr × Obj)}
  (B : Below A₀ base outer h₀) (F : Fr h₀ L s.heap m) (X : (Mine.hd.heap_39 w.params).In h₀) (T : TopH mean mg mb h₀)
  (hf : env.frame = some L) (hk : env.scope.kind = .function)
include B F X T hf hk

omit B F X T hf hk in
theorem pTr_right : (pTr (Str.ofString "right") = true) = True := eq_true rfl
omit B F X T hf hk in
theorem pTr_left : (pTr (Str.ofString "left") = true) = True := eq_true rfl
omit B F X T hf hk in
theorem pTr_swap : (pTr (Str.ofString "swap") = true) = True := eq_true rfl
omit B F X T hf hk in
theorem pTr_cross : (pTr (Str.ofString "cross") = true) = True := eq_true rfl
omit B F X T hf hk in
theorem pTr_mirror : (pTr (Str.ofString "mirror") = true) = False := eq_false (by simp [show pTr (Str.ofString "mirror") = false from rfl])
omit B F X T hf hk in
theorem pTr_back : (pTr (Str.ofString "back") = true) = False := eq_false (by simp [show pTr (Str.ofString "back") = false from rfl])

omit B F X T hf hk in
theorem mat_neSame {prog : Program} {A : Around} {E : Value → Shared → Prop} {n1 n2 : List (Addr × Obj)} {a b : Addr} {M1 : List (List Int)} {Q : Value → Shared → Prop} (N : News h₀ L s.heap news) (h1 : DatIn n1 (.ref a) (matD M1)) (s1 : ∀ p ∈ n1, p ∈ news) (h2 : DatIn n2 (.ref b) (matD M1)) (s2 : ∀ p ∈ n2, p ∈ news) (hu : A.units + 64 < cLine) (h : Q (.bool false) s) :
    wpAny (model prog w) A (compareOp .NotEq (.ref a) (.ref b)) Q E s := mat_ne N h1 s1 h2 s2 hu (by rw [decide_eq_true rfl]; exact h)
theorem same_true {x1 x2 : Addr} {W1 H1 W2 H2 : Int} {r1 r2 : Addr} {M1 M2 : List (List Int)} {n1 n2 n3 n4 : List (Addr × Obj)} (N : News h₀ L s.heap news) (hp1 : PlIn n1 x1 W1 H1 r1) (s1 : ∀ p ∈ n1, p ∈ news) (hp2 : PlIn n2 x2 W2 H2 r2) (s2 : ∀ p ∈ n2, p ∈ news) (hM1 : DatIn n3 (.ref r1) (matD M1)) (s3 : ∀ p ∈ n3, p ∈ news) (hM2 : DatIn n4 (.ref r2) (matD M2)) (s4 : ∀ p ∈ n4, p ∈ news)
    (e : W1 = W2 ∧ H1 = H2 ∧ M1 = M2) (hd : dp + 1 ≤ 400) (hu : un + 20 ≤ 1000)
    (ret : ∀ h' tk', Fr h₀ L h' m → News h₀ L h' news → R (.ok (.ret (.bool true))) { s with heap := h', toks := tk' }) :
    codeAny (model PySem.Challenge.pw_nz0241_01 w) (nzA dp un gd env outer) (.call (.ref 105) ⟨[.ref x1, .ref x2], []⟩) R s :=
  same_t B F X T hf hk N hp1 s1 hp2 s2 hM1 s3 hM2 s4 hd hu fun b h' tk' hb F' N' => by
    obtain rfl := hb.mpr e
    exact ret h' tk' F' N'
omit B F X T hf hk in
theorem words8_ok {wd : Str} (hw : wd ∈ words8) : pFl wd = true ∨ pSt wd = true := by
  simp only [words8, List.mem_cons, List.not_mem_nil, or_false] at hw
  rcases hw with rfl | rfl | rfl | rfl | rfl | rfl | rfl | rfl
  all_goals first | exact .inl rfl | exact .inr rfl
omit B F X T hf hk in
theorem oppW_ok {wd : Str} (hw : wd ∈ words8) : pFl (oppW wd) = true ∨ pSt (oppW wd) = true := by
  simp only [words8, List.mem_cons, List.not_mem_nil, or_false] at hw
  rcases hw with rfl | rfl | rfl | rfl | rfl | rfl | rfl | rfl
  all_goals first | exact .inl rfl | exact .inr rfl
omit B F X T hf hk in
theorem opp_shape {wd : Str} {W H : Int} (hw : wd ∈ words8) : (if pTr (oppW wd) = true then (if pTr wd = true then W else H) else (if pTr wd = true then H else W)) = W ∧ (if pTr (oppW wd) = true then (if pTr wd = true then H else W) else (if pTr wd = true then W else H)) = H := by
  simp only [words8, List.mem_cons, List.not_mem_nil, or_false] at hw
  rcases hw with rfl | rfl | rfl | rfl | rfl | rfl | rfl | rfl <;> exact ⟨rfl, rfl⟩
omit B F X T hf hk in
theorem flat_str {v : Value} {d : PyData} {x : Str} (h : PyProof.V.Flat v d) (e : d = .str x) : ∃ t, v = .str x t := by
  subst e
  exact PyProof.V.Flat.str_inv h

theorem isTurned_t {x r : Addr} {M : List (List Int)} {W H : Int} {wd : Str} {tw : Tok} {n0 n1 : List (Addr × Obj)} (N : News h₀ L s.heap news) (hp : PlIn n0 x W H r) (hp0 : ∀ p ∈ n0, p ∈ news) (hM : DatIn n1 (.ref r) (matD M)) (hM0 : ∀ p ∈ n1, p ∈ news) (hMat : Mat M W H) (hw : wd ∈ words8) (hd : dp + 6 ≤ 400) (hu : un + 120 ≤ 1000)
    (ret : ∀ h' tk', Fr h₀ L h' m → News h₀ L h' news → R (.ok (.ret (.bool true))) { s with heap := h', toks := tk' }) :
    codeAny (model PySem.Challenge.pw_nz0241_01 w) (nzA dp un gd env outer) (.call (.ref 162) ⟨[.ref x, .str wd tw], []⟩) R s := by
  replace hM := hM.mono hM0
  replace hp := hp.mono hp0
  obtain ⟨q1, q2, q3, q4, q5, q6⟩ := id hMat
  have hne := hMat.ne
  have hMt := turnM_mat (wd := wd) hMat
  obtain ⟨u1, u2, u3, u4, u5, u6⟩ := id hMt
  k_dflt (refine' code_def ?k1 ?k2 ?k3 ?k4 ?k5 ?kA ?kF ?kK ?k6 ?k7 ?k8 ?k9 ?kB ?_ ?c2 ?c3 ?c4 ?c5; (case kA => exact rfl); (case kF => first | assumption | exact rfl); (case kK => first | assumption | exact rfl); (case k1 => k_asm); (case k2 => k_asm); (case k3 => k_asm); (case k4 => k_asm); (case k5 => k_asm); (case k6 => k_is); (case k7 => k_is); (case k8 => walk_at "nz room"); (case k9 => exact BindsTo.of_eq rfl); (case c5 => decide); (case kB => exact locs rfl); (case c2 => exact rfl); (case c3 => exact rfl); (case c4 => exact rfl); k_whole; intro g1 L1 h1 FG1 F1 N1 B1 X1 T1; (try dsimp only); (try k_lift B1); (try k_fold); with_reducible refine anyE fun EE => ?_)

  have hw0 := words8_ok hw
  have hw1 : pFl (oppW wd) = true ∨ pSt (oppW wd) = true := oppW_ok hw
  have eo := turn_opp hw hMat
  have es := opp_shape (W := W) (H := H) hw
  obtain ⟨es1, es2⟩ := es
  have er := turn_right2 hMat
  have ew := turn_swap hMat
  have ec := turn_cross hMat
  k_steps
  all_goals first | (exfalso; (rename ((_ == _ && _ == _) = false) => hx9); (rename ((List.length _ : Int) = if pTr wd = true then H else W) => hl9); rw [hl9, u5] at hx9; simp at hx9; done) | skip
  unfold Hold
  (rename PyProof.V.Flat _ _ => hfl)
  have hop := flat_str hfl opp_get
  obtain ⟨top, hop⟩ := hop
  subst hop
  clear hfl
  k_steps
  (rename News _ _ _ _ => N9)
  (rename Fr _ _ _ _ => F9)
  exact ret _ _ F9 (newsSub N9 (by intro p hp; walk_at "nz in"))

end
/-- the object at e has this dict -/
def DictAt (e : Addr) (d : Option Addr) (h : Heap) : Prop := ∃ oe, h.get? e = some oe ∧ oe.dict = d
/-- a piece that stores nothing in any object's dict place, and calls nothing -/
def KeepsD {α : Type} : Sem α → Prop
  | .pure _ => True
  | .raise _ => True
  | .unsupported _ => True
  | .finish _ => True
  | .rule _ k => KeepsD (k ())
  | .at _ k => KeepsD (k ())
  | .load _ _ k => ∀ o, KeepsD (k o)
  | .update _ _ f k => (∀ o, (f o).dict = o.dict ∧ (f o).isFreed = o.isFreed) ∧ KeepsD (k ())
  | .alloc _ k => ∀ a, KeepsD (k a)
  | .loadIfAlive _ k => ∀ o, KeepsD (k o)
  | .point _ k => KeepsD (k ())
  | .fresh k => ∀ t, KeepsD (k t)
  | .ask k => ∀ t, KeepsD (k t)
  | .stack k => ∀ t, KeepsD (k t)
  | .handled _ k => ∀ t, KeepsD (k t)
  | _ => False
theorem keeps_bind {α β : Type} {m : Sem α} {f : α → Sem β} (hm : KeepsD m) (hf : ∀ a, KeepsD (f a)) : KeepsD (m >>= f) := by
  show KeepsD (Sem.bind m f)
  induction m with
  | pure a => exact hf a
  | raise e => trivial
  | unsupported w => trivial
  | finish e => trivial
  | rule t k ih => exact ih () hm
  | «at» p k ih => exact ih () hm
  | load a p k ih => exact fun o => ih o (hm o)
  | update a p g k ih => exact ⟨hm.1, ih () hm.2⟩
  | alloc o k ih => exact fun o => ih o (hm o)
  | loadIfAlive a k ih => exact fun o => ih o (hm o)
  | point l k ih => exact ih () hm
  | fresh k ih => exact fun o => ih o (hm o)
  | ask k ih => exact fun o => ih o (hm o)
  | stack k ih => exact fun o => ih o (hm o)
  | handled w k ih => exact fun o => ih o (hm o)
  | _ => exact hm.elim
theorem dictAt_update {e : Addr} {d : Option Addr} {h : Heap} {a : Addr} {f : Obj → Obj} (hf : ∀ o, (f o).dict = o.dict ∧ (f o).isFreed = o.isFreed) (x : DictAt e d h) : DictAt e d (h.update a f) := by
  obtain ⟨oe, he, hd⟩ := x
  by_cases q : a = e
  · subst q
    exact ⟨f oe, Heap.get?_update_self f he (((hf oe).2).trans (Heap.get?_some_iff.mp he).2), (hf oe).1.trans hd⟩
  · exact ⟨oe, (Heap.get?_update_other _ _ q).trans he, hd⟩
theorem wp_keeps {α : Type} {M : Model} {Γ : Ctx} {e : Addr} {d : Option Addr} (t : Sem α) (hk : KeepsD t) : ∀ (Q : α → Pos → Shared → Prop) (E : Value → Pos → Shared → Prop) (p : Pos) (s : Shared), DictAt e d s.heap → Sem.wp M Γ t Q E p s →
    Sem.wp M Γ t (fun a p s' => Q a p s' ∧ DictAt e d s'.heap) (fun v p s' => E v p s' ∧ DictAt e d s'.heap) p s := by
  induction t with
  | pure a => exact fun Q E p s x h => ⟨h, x⟩
  | raise e => exact fun Q E p s x h => ⟨h, x⟩
  | unsupported w => exact fun Q E p s x h => h
  | finish e => exact fun Q E p s x h => h
  | rule t k ih => exact fun Q E p s x h => ih () hk Q E p s x h
  | «at» p k ih => exact fun Q E p s x h => ih () hk Q E _ s x h
  | load a p k ih =>
    intro Q E p s x h
    obtain ⟨o, ho, h⟩ := h
    exact ⟨o, ho, ih o (hk o) Q E p s x h⟩
  | update a p g k ih =>
    intro Q E p s x h
    exact ⟨h.1, ih () hk.2 Q E p _ (dictAt_update hk.1 x) h.2⟩
  | alloc o k ih =>
    intro Q E p s x h
    obtain ⟨oe, he, hd⟩ := x
    exact ih _ (hk _) Q E p _ ⟨oe, Heap.get?_push_of_some _ he, hd⟩ h
  | loadIfAlive a k ih => exact fun Q E p s x h => ih _ (hk _) Q E p s x h
  | point l k ih => exact fun Q E p s x h => ih () hk Q E p s x h
  | fresh k ih => exact fun Q E p s x h => ih _ (hk _) Q E p _ x h
  | ask k ih => exact fun Q E p s x h => ih _ (hk _) Q E p s x h
  | stack k ih => exact fun Q E p s x h => ih _ (hk _) Q E p s x h
  | handled w k ih => exact fun Q E p s x h => ih _ (hk _) Q E p s x h
  | _ => exact hk.elim
theorem any_keeps {α : Type} {M : Model} {A : Around} {e : Addr} {d : Option Addr} {t : Sem α} {Q : α → Shared → Prop} {E : Value → Shared → Prop} {s : Shared} (hk : KeepsD t) (x : DictAt e d s.heap) (h : wpAny M A t Q E s) :
    wpAny M A t (fun a s' => Q a s' ∧ DictAt e d s'.heap) (fun v s' => E v s' ∧ DictAt e d s'.heap) s := fun Γ p hΓ => wp_keeps t hk _ _ p s x (h Γ p hΓ)
theorem keeps_pure {α : Type} (a : α) : KeepsD (pure a : Sem α) := trivial
theorem keeps_load (a : Addr) : KeepsD (load a) := fun _ => trivial
theorem keeps_unsupported {α : Type} (w : String) : KeepsD (unsupported w : Sem α) := trivial
theorem freed_map (f : Array Value → Array Value) (o : Obj) : (Obj.mapFields f o).dict = o.dict ∧ (Obj.mapFields f o).isFreed = o.isFreed := by
  obtain ⟨c, d, dt, s⟩ := o
  cases dt <;> exact ⟨rfl, rfl⟩
theorem freed_slots (sl : Obj → Array (Option Value)) (o : Obj) : ({ o with slots := sl o } : Obj).dict = o.dict ∧ ({ o with slots := sl o } : Obj).isFreed = o.isFreed := by
  obtain ⟨c, d, dt, s⟩ := o
  cases dt <;> exact ⟨rfl, rfl⟩
theorem keeps_fieldsOf (v : Value) : KeepsD (fieldsOf v) := by
  unfold fieldsOf
  split
  · refine keeps_bind (keeps_load _) fun o => ?_
    split
    · trivial
    · trivial
  · trivial
theorem keeps_field (v : Value) (i : Nat) : KeepsD (field v i) := by
  unfold field
  refine keeps_bind (keeps_fieldsOf _) fun o => ?_
  split <;> trivial
theorem keeps_setField (v : Value) (i : Nat) (x : Value) : KeepsD (setField v i x) := by
  unfold setField
  split
  · unfold updateField
    refine keeps_bind (keeps_load _) fun o => ?_
    split
    · split
      · exact ⟨freed_map _, trivial⟩
      · trivial
    · trivial
  · trivial
theorem keeps_stack : KeepsD stack := fun _ => trivial
theorem keeps_setFlight (e : Value) (f : Option Addr) : KeepsD (setFlight e f) := by
  unfold setFlight
  refine keeps_bind (keeps_field _ _) fun o => ?_
  split
  · exact keeps_setField _ _ _
  · trivial
theorem keeps_ite {α : Type} {c : Prop} [Decidable c] {a b : Sem α} (ha : KeepsD a) (hb : KeepsD b) : KeepsD (if c then a else b) := by
  split
  · exact ha
  · exact hb
theorem keeps_map {α : Type} {m : Sem α} (hm : KeepsD m) {β : Type} (f : α → β) : KeepsD (do let x ← m; pure (f x)) := keeps_bind hm fun _ => keeps_pure _
theorem keeps_keptBack (env : Env) (i : Bool) (l : List Env) : KeepsD (keptBack env i l) := by
  cases l with
  | nil =>
    show KeepsD (if (env.scope.isGenerator || env.scope.isCoroutine) = true then pure Value.none else _)
    refine keeps_ite (keeps_pure _) ?_
    refine keeps_bind ?_ fun _ => keeps_pure _
    unfold underTheClaimsCaller
    exact keeps_bind keeps_stack fun _ => keeps_pure _
  | cons a l => exact keeps_pure _
theorem keeps_behind (env : Env) (l : List Env) : KeepsD (behindIsImport env l) := by
  unfold behindIsImport
  refine keeps_ite (keeps_pure _) (keeps_ite (keeps_pure _) (keeps_bind (keeps_field _ _) fun _ => keeps_pure _))
theorem keeps_ready : ∀ (l : List Env), KeepsD (readyFrames l)
  | [] => trivial
  | env :: outer => by
    unfold readyFrames
    split
    · refine keeps_bind (keeps_load _) fun o => ?_
      refine keeps_ite (keeps_pure _) ?_
      refine keeps_bind (keeps_behind _ _) fun i => ?_
      refine keeps_bind (keeps_keptBack _ _ _) fun b => ?_
      refine keeps_bind ?_ fun _ => keeps_ready outer
      exact ⟨freed_slots _, trivial⟩
    · exact keeps_unsupported _
theorem keeps_frameOf (env : Env) : KeepsD (PySem.frameOf env) := by
  unfold PySem.frameOf
  refine keeps_bind ?_ fun l => keeps_bind ?_ fun x => ?_
  · unfold frameEnvs
    exact keeps_bind keeps_stack fun _ => keeps_pure _
  · unfold frameObject
    split
    · exact keeps_pure _
    · exact keeps_bind (keeps_ready _) fun _ => keeps_pure _
  · split
    · exact keeps_pure _
    · exact keeps_unsupported _
theorem keeps_noteFrame (e : Value) (env : Env) : KeepsD (noteFrame e env) := by
  unfold noteFrame
  split
  · refine keeps_bind (keeps_field _ _) fun head => ?_
    have tail : ∀ (f : Addr), KeepsD (do setField e 1 (← EntryCells.newEntry head (← PySem.frameOf env) .none (rawInt f) .none (← entryPlaceOf f (head != .none)))) := by
      intro f
      refine keeps_bind (keeps_frameOf _) fun fr => keeps_bind ?_ fun pl => keeps_bind ?_ fun en => keeps_setField _ _ _
      · unfold entryPlaceOf
        refine keeps_bind keeps_stack fun a => ?_
        split
        · exact keeps_pure _
        · exact keeps_pure _
      · unfold EntryCells.newEntry newFields newObj
        refine keeps_ite (keeps_unsupported _) ?_
        exact fun a => keeps_pure _
    refine keeps_ite ?_ (tail _)
    refine keeps_bind (keeps_field _ _) fun fl => ?_
    refine keeps_ite (keeps_pure _) ?_
    exact keeps_bind (keeps_setField _ _ _) fun _ => tail _
  · exact keeps_unsupported _
theorem keeps_leaving (env : Env) (e : Value) : KeepsD (leaving env e) := by
  unfold leaving
  exact keeps_bind (keeps_noteFrame _ _) fun _ => keeps_setFlight _ _
section
open PySem.Spec
abbrev frs (l : List Env) : List Addr := l.filterMap (·.frame)
theorem frs_mem {env : Env} {outer : List Env} {L b : Addr} (hf : env.frame = some L) (hm : b ∈ frs (env :: outer)) : b = L ∨ b ∈ frs outer := by
  obtain ⟨e', he, hb⟩ := List.mem_filterMap.mp hm
  rcases List.mem_cons.mp he with rfl | he
  · exact .inl (Option.some.inj (hb.symm.trans hf))
  · exact .inr (List.mem_filterMap.mpr ⟨e', he, hb⟩)
/-- the end of a def in which something was caught: the frames' slots may be others -/
def LeaveT (fs : List Addr) (A₀ : Around) (base : Heap) (outer : List Env) (h₀ : Heap) (L : Addr) (m : Str → Option Value) (g : Heap) (R : Result → Shared → Prop) (v : Value) (s' : Shared) : Prop :=
  ∃ g' L' m' news', KtsTurn fs g g' ∧ Fr g' L' s'.heap m' ∧ News g' L' s'.heap news' ∧ ∀ h₀', KtsTurn (frs outer) h₀ h₀' → Fr h₀' L s'.heap m → News h₀' L s'.heap news' → Below A₀ base outer h₀' → R (.ok (.ret v)) s'
section
variable {prog : Program} {w : World} {A₀ A : Around} {s : Shared} {base h₀ : Heap} {outer : List Env} {L : Addr} {m : Str → Option Value} {env : Env} {news : List (Addr × Obj)}
  {R : Result → Shared → Prop}
theorem groundT (B : Below A₀ base outer h₀) (F : Fr h₀ L s.heap m) (N : News h₀ L s.heap news) (hA : A.frames = some (env :: outer)) (hf : env.frame = some L) (hke : env.scope.kind = .function) :
    ∀ v s', LeaveT (frs (env :: outer)) A₀ base outer h₀ L m (hideAll s.heap (news.map (·.1))) R v s' → R (.ok (.ret v)) s' := by
  rintro v s' ⟨g', L', m', news', T', F', N', k⟩
  obtain ⟨FG, BG, st, _⟩ := groundX (R := R) B F N hA hf hke
  generalize hideAll s.heap (news.map (·.1)) = g at *
  obtain ⟨oL, es, ep, hLg, hLd, hLk, hLf⟩ := FG.ns
  have nL₀ : h₀.get? L = none := kts_self F
  obtain ⟨sl, hs⟩ := T'.up hLg
  obtain ⟨T₁, S₁⟩ := kts_turn_at (h := s'.heap) (fs := frs outer) (g := h₀)
    (fun b hb => by
      obtain ⟨_, o, ho', _⟩ := B.frames.mem hb
      exact ⟨o, ho'⟩)
    (fun b o e nmem => F'.keep b o (T'.other b o (st b o e) (fun q => by
      rcases frs_mem hf q with z | z
      · rw [z, nL₀] at e
        cases e
      · exact nmem z)))
    (fun b o e hm => by
      obtain ⟨sl', hs'⟩ := T'.up (st b o e)
      exact ⟨sl', F'.keep _ _ hs'⟩)
  refine k _ T₁ ⟨⟨_, es, ep, F'.keep _ _ hs, hLd, hLk, hLf⟩, S₁, by rw [T₁.size]; exact F.above⟩ (fun p hp => ⟨(N' p hp).1, fun q => ?_, ?_⟩) ⟨B.stack, fun b o e => T₁.other b o (B.stays b o e) (fun hm => by
    rw [(B.frames.mem hm).1] at e
    cases e), B.frames.of_keeps fun b o e _ => by
    obtain ⟨sl', hs'⟩ := T₁.up e
    exact ⟨_, hs', rfl⟩⟩
  · have := (N' p hp).2.2; rw [q, hs] at this; cases this
  · refine T₁.none_ _ ?_
    cases q : h₀.get? p.1 with
    | none => rfl
    | some o =>
      obtain ⟨sl', hs'⟩ := T'.up (st _ _ q)
      have := (N' p hp).2.2
      rw [hs'] at this
      cases this
variable {K : Frag} {p : Program} {loose : List Str} {mean : ExcName → Option Value} {mg mb : Str → Option Value}
  {name qual : Str} {params : Arguments} {body : List Stmt} {scope : Scope} {dV kV doc pm cdv ct oc : Value} {an od : Option Addr} {osl : Array (Option Value)} {f : Addr} {args : Args} {binds : List (Str × Value)}
theorem code_defT (B : Below A₀ base outer h₀) (F : Fr h₀ L s.heap m) (X₀ : K.In h₀) (N : News h₀ L s.heap news) (T : Top p loose mean mg mb h₀) (hA : A.frames = some (env :: outer)) (hf : env.frame = some L) (hke : env.scope.kind = .function)
    (ho : K.lookup f = some ⟨oc, od, .func (fnOf name qual params body scope dV kV doc pm an cdv ct), osl⟩) (hcd : codeIn K cdv qual = true) (hroom : A.depth < recursionLimit)
    (hbind : BindsTo s (fnOf name qual params body scope dV kV doc pm an cdv ct) args binds) (hloc : ∀ y ∈ binds, scope.names.lookup y.1 = some .local)
    (h : ∀ g L' h₁, Fr h₀ L g m → Fr g L' h₁ (fun y => binds.reverse.lookup y) → News g L' h₁ news → Below A base (env :: outer) g → K.In g → Top p loose mean mg mb g →
      wpAny (model prog w) (A.deeper (envOf qual scope L' f cdv)) (execs body (envOf qual scope L' f cdv))
        (fun fl s' => LeaveT (frs (env :: outer)) A₀ base outer h₀ L m g R (match fl with | .ret v => v | _ => .none) s')
        (fun e s' => wpAny (model prog w) (A.deeper (envOf qual scope L' f cdv)) (leaving (envOf qual scope L' f cdv) e) (fun _ s'' => R (.error e) s'') (fun e' s'' => R (.error e') s'') s')
        { s with heap := h₁, toks := s.toks + binds.length })
    (hco : scope.isCoroutine = false) (hgen : scope.isGenerator = false) (hk : scope.kind = .function)
    (hcell : ∀ x ∈ scope.names, x.2 ≠ .cell) : codeAny (model prog w) A (.call (.ref f) args) R s := by
  have lv := groundT (R := R) B F N hA hf hke
  obtain ⟨FG, BG, st, _⟩ := groundX (R := R) B F N hA hf hke
  have X := X₀.keeps F.keep
  refine codeAny_call_def (fd := fnOf name qual params body scope dV kV doc pm an cdv ct) (body := body) (binds := binds) hroom (X _ _ ho) rfl (T.nolimit.keeps F.keep) (codeRec_of X hcd) rfl hbind hcell hloc (fun h₁ hns hk₁ => ?_) hco hgen hk
  exact wpAny_mono (h _ s.heap.objs.size h₁ FG ⟨hns, fun b o e => hk₁ b o (of_hideAll _ e), Nat.le_of_eq (hideAll_size _ _)⟩
    (fun p hp => ⟨hk₁ _ _ (N p hp).1, Nat.ne_of_lt (Heap.lt_size (N p hp).1), hideAll_none _ (List.mem_map_of_mem hp)⟩) BG (X₀.keeps st) (T.keeps st)) (fun fl s' hl => lv _ _ hl) fun _ _ y => y
theorem code_defCT (B : Below A₀ base outer h₀) (F : Fr h₀ L s.heap m) (X₀ : K.In h₀) (N : News h₀ L s.heap news) (T : Top p loose mean mg mb h₀) (hA : A.frames = some (env :: outer)) (hf : env.frame = some L) (hke : env.scope.kind = .function)
    (ho : K.lookup f = some ⟨oc, od, .func (fnOf name qual params body scope dV kV doc pm an cdv ct), osl⟩) (hcd : codeIn K cdv qual = true) (hroom : A.depth < recursionLimit)
    (hbind : BindsTo s (fnOf name qual params body scope dV kV doc pm an cdv ct) args binds) (hkind : (binds.all fun y => scope.names.lookup y.1 == some .local || scope.names.lookup y.1 == some .cell) = true)
    (hnd : ((cellsFrom 0 scope.names []).map (·.1)).Nodup)
    (h : ∀ g L' h₁ tk cells, Fr h₀ L g m → Fr g L' h₁ (bindL (envOfC qual scope L' f cdv).kindOf binds fun _ => none) → News g L' h₁ (cells ++ news) →
      CellsAre (bindC (envOfC qual scope L' f cdv).kindOf binds fun _ => none) (cellsFrom (L' + 1) scope.names []) cells → Below A base (env :: outer) g → K.In g → Top p loose mean mg mb g → (∀ p ∈ news, p.1 < L') →
      wpAny (model prog w) (A.deeper (envOfC qual scope L' f cdv)) (execs body (envOfC qual scope L' f cdv))
        (fun fl s' => LeaveT (frs (env :: outer)) A₀ base outer h₀ L m g R (match fl with | .ret v => v | _ => .none) s')
        (fun e s' => wpAny (model prog w) (A.deeper (envOfC qual scope L' f cdv)) (leaving (envOfC qual scope L' f cdv) e) (fun _ s'' => R (.error e) s'') (fun e' s'' => R (.error e') s'') s')
        { s with heap := h₁, toks := tk })
    (hco : scope.isCoroutine = false) (hgen : scope.isGenerator = false) (hk : scope.kind = .function) : codeAny (model prog w) A (.call (.ref f) args) R s := by
  have lv := groundT (R := R) B F N hA hf hke
  obtain ⟨FG, BG, st, _⟩ := groundX (R := R) B F N hA hf hke
  have X := X₀.keeps F.keep
  refine codeAny_call_function hroom (X _ _ ho) rfl hco hgen rfl (codeRec_of X hcd) (hbind _ _ _ _ ?_)
  refine wpAny_newFunctionEnv_cells hk (kindsX hkind _) fun env' he s' x => ?_
  subst he
  refine ⟨(T.nolimit.keeps F.keep).keeps x.toInCall.keep, codeAny_func ?_⟩
  obtain ⟨h₁, tk, rfl, _⟩ := x.done
  have hk₁ := x.toInCall.keep
  obtain ⟨cells, NC, Y⟩ := Cl.news (h₀ := s.heap) (Nat.le_refl _) fun n c hm => ⟨x.cell n c (lookup_of_mem_nodup (cellsFrom_names scope.names 0 (s.heap.objs.size + 1) [] [] rfl ▸ hnd) hm), x.above n c hm⟩
  refine wpAny_mono (h _ s.heap.objs.size h₁ tk cells FG ⟨x.toInCall.ns, fun b o e => hk₁ b o (of_hideAll _ e), Nat.le_of_eq (hideAll_size _ _)⟩ (fun p hp => ?_) Y BG (X₀.keeps st) (T.keeps st) (fun p hp => Heap.lt_size (N p hp).1)) (fun fl s' hl => lv _ _ hl) fun _ _ y => y
  rcases List.mem_append.mp hp with hp | hp
  · refine ⟨(NC p hp).1, (NC p hp).2.1, ?_⟩
    cases q : (hideAll s.heap (news.map (·.1))).get? p.1 with
    | none => rfl
    | some o => have := of_hideAll _ q; rw [(NC p hp).2.2] at this; cases this
  · exact ⟨hk₁ _ _ (N p hp).1, Nat.ne_of_lt (Heap.lt_size (N p hp).1), hideAll_none _ (List.mem_map_of_mem hp)⟩
end
end
section
open PySem.Spec
/-- an exception of class 44 in flight, its dict at d -/
structure Thrown (B : Heap) (l : List Env) (fs : List Addr) (e t d : Addr) (od : Obj) (g : Heap) (L : Addr) (m : Str → Option Value) (news : List (Addr × Obj)) (h' : Heap) : Prop where
  fly : Heap.FlyingW B l e (.ref 44) (.ref t) h'
  dict : DictAt e (some d) h'
  dobj : B.get? d = some od
  dnew : g.get? d = none
  dL : @Ne Nat d L
  keep : ∀ b o, g.get? b = some o → b ∉ fs → B.get? b = some o
  led : ∀ p ∈ news, B.get? p.1 = some p.2
  slots : g.UpToSlots h'
  ns : h'.Ns L m
abbrev excObj (t d : Addr) : Obj := { cls := .ref 44, dict := some d, data := .fields #[.ref t, .none, .none, .none, .bool false, .none] }
section
variable {M : Model} {A : Around} {E : Value → Shared → Prop} {s' : Shared} {base g h₀ : Heap} {outer : List Env} {L Lc e t d : Addr} {m mc : Str → Option Value} {env envc : Env} {nl news : List (Addr × Obj)} {od : Obj} {Q : Unit → Shared → Prop}
theorem leave_first (Bc : Below A base (env :: outer) g) (FG : Fr h₀ L g m) (hf : env.frame = some L) (F : Fr g Lc s'.heap mc) (hfc : envc.frame = some Lc) (hkc : envc.scope.kind = .function) (N : News g Lc s'.heap nl)
    (he : (e, excObj t d) ∈ nl) (hd : (d, od) ∈ nl) (hde : @Ne Nat d e) (hn : ∀ p ∈ news, p ∈ nl) (hne : ∀ p ∈ news, @Ne Nat p.1 e)
    (k : ∀ B h', Thrown B (env :: outer) (frs outer) e t d od h₀ L m news h' → Q () { s' with heap := h' }) :
    wpAny M (A.deeper envc) (leaving envc (.ref e)) Q E s' := by
  have K' := pushX Bc F hfc hkc
  have eL := (N _ he).1
  have eg : g.get? e = none := (N _ he).2.2
  have eLc : @Ne Nat Lc e := fun q => (N _ he).2.1 q.symm
  have inG : ∀ b, b ∈ frs (env :: outer) → ∃ o, g.get? b = some o := fun b hb => let ⟨_, o, ho, _⟩ := Bc.frames.mem hb; ⟨o, ho⟩
  have efr : ∀ b o, s'.heap.get? b = some o → (∃ o', g.get? b = some o' ∧ b ∉ frs (env :: outer)) ∨ (g.get? b = none ∧ b ≠ Lc) → b ≠ e → (hideAll s'.heap (e :: frs (envc :: env :: outer))).get? b = some o := by
    intro b o ho hor hbe
    refine hideAll_get _ ho fun hm => ?_
    rcases List.mem_cons.mp hm with q | hm
    · exact hbe q
    · rcases frs_mem hfc hm with q | q
      · rcases hor with ⟨o', h1, _⟩ | ⟨_, h2⟩
        · rw [q, kts_self F] at h1; cases h1
        · exact h2 q
      · rcases hor with ⟨_, _, h2⟩ | ⟨h1, _⟩
        · exact h2 q
        · obtain ⟨o', ho'⟩ := inG b q
          rw [h1] at ho'; cases ho'
  have lt : ∀ p ∈ nl, @Ne Nat p.1 e → (hideAll s'.heap (e :: frs (envc :: env :: outer))).get? p.1 = some p.2 := fun p hp hpe => efr _ _ (N p hp).1 (.inr ⟨(N p hp).2.2, (N p hp).2.1⟩) hpe
  obtain ⟨oL, es, ep, hLg, hLd, _⟩ := FG.ns
  have hin : ∀ ev ∈ envc :: env :: outer, ∀ a, ev.frame = some a → a ∈ e :: frs (envc :: env :: outer) := fun ev hev a ha => .tail _ (List.mem_filterMap.mpr ⟨ev, hev, ha⟩)
  have step := wpAny_leaving_firstW (M := M) (A := A.deeper envc) (E := fun _ _ => False) (s := s') (base := hideAll s'.heap (e :: frs (envc :: env :: outer))) (a0 := .ref t)
    (Q := fun _ s₂ => ∃ h', s₂ = { s' with heap := h' } ∧ Heap.LeftW (hideAll s'.heap (e :: frs (envc :: env :: outer))) (envc :: env :: outer) e (.ref 44) (.ref t) s'.heap h')
    K'.stack (funFrames_hide K'.frames hin) hfc eL (fun b o q => of_hideAll _ q) (hideAll_none _ (.head _)) rfl rfl rfl fun h' hL => ⟨h', rfl, hL⟩
  have step2 := any_keeps (e := e) (d := some d) (keeps_leaving envc (.ref e)) ⟨_, eL, rfl⟩ step
  refine wpAny_mono step2 (fun _ s₂ q => ?_) fun _ _ q => q.1.elim
  obtain ⟨⟨h', rfl, k1, ⟨_, _, k2⟩, k3, k4⟩, dk⟩ := q
  have sm : g.UpToSlots h' := (Heap.UpToSlots.of_keeps F.keep).trans k4
  refine k _ h' ⟨⟨k1, hideAll_none _ (.head _), k2, k3⟩, dk, lt (d, od) hd hde, kts_none FG.keep (N _ hd).2.2, fun q => ?_, fun b o q nm => ?_, fun p hp => lt p (hn p hp) (hne p hp), (Heap.UpToSlots.of_keeps FG.keep).trans sm, sm.ns FG.ns⟩
  · have q' : d = L := q
    have := (N _ hd).2.2
    rw [show ((d, od) : Addr × Obj).1 = L from q', hLg] at this
    cases this
  · refine efr b o (F.keep _ _ (FG.keep _ _ q)) (.inl ⟨o, FG.keep _ _ q, fun hm => ?_⟩) fun z => ?_
    · rcases frs_mem hf hm with z | z
      · rw [z, kts_self FG] at q; cases q
      · exact nm z
    · have := FG.keep _ _ q
      rw [z, eg] at this
      cases this
theorem leave_next {B : Heap} (R : Thrown B (envc :: env :: outer) (frs (env :: outer)) e t d od g Lc mc nl s'.heap) (hfr : A.frames = some (env :: outer)) (FG : Fr h₀ L g m) (hf : env.frame = some L) (hfc : envc.frame = some Lc) (hn : ∀ p ∈ news, p ∈ nl)
    (k : ∀ h', Thrown B (env :: outer) (frs outer) e t d od h₀ L m news h' → Q () { s' with heap := h' }) :
    wpAny M (A.deeper envc) (leaving envc (.ref e)) Q E s' := by
  have step := wpAny_leaves_onW (M := M) (E := fun _ _ => False) (s := s') (Q := fun _ s₂ => ∃ h', s₂ = { s' with heap := h' } ∧ Heap.FlyingW B (env :: outer) e (.ref 44) (.ref t) h' ∧ s'.heap.UpToSlots h')
    (Around.frames_deeper (env := envc) hfr) hfc R.fly fun h' x1 x2 => ⟨h', rfl, x1, x2⟩
  have step2 := any_keeps (e := e) (d := some d) (keeps_leaving envc (.ref e)) R.dict step
  refine wpAny_mono step2 (fun _ s₂ q => ?_) fun _ _ q => q.1.elim
  obtain ⟨⟨h', rfl, k1, k4⟩, dk⟩ := q
  obtain ⟨oL, es, ep, hLg, hLd, _⟩ := FG.ns
  have sm : g.UpToSlots h' := R.slots.trans k4
  refine k h' ⟨k1, dk, R.dobj, kts_none FG.keep R.dnew, fun q => ?_, fun b o q nm => R.keep b o (FG.keep _ _ q) fun hm => ?_, fun p hp => R.led p (hn p hp), (Heap.UpToSlots.of_keeps FG.keep).trans sm, sm.ns FG.ns⟩
  · have := R.dnew
    rw [show d = L from q, hLg] at this
    cases this
  · rcases frs_mem hf hm with z | z
    · rw [z, kts_self FG] at q; cases q
    · exact nm z
end
section
variable {prog : Program} {w : World} {A₀ : Around} {E : Value → Shared → Prop} {s' : Shared} {base g : Heap} {outer : List Env} {L a e t d : Addr} {m : Str → Option Value} {name : Str} {scope : Scope} {cd : Value} {od : Obj} {B : Heap}
  {n : Str} {b₀ : Stmt} {suite : List Stmt} {pos np : Pos} {rest : List ExceptHandler} {Q : Flow → Shared → Prop} {news : List (Addr × Obj)} {KF : Frag}
  {p : Program} {loose : List Str} {mean : ExcName → Option Value} {mg mb : Str → Option Value} {x : Str}
theorem thrown_ground {h₅ : Heap} (K : Below A₀ base outer g) (gL : g.objs.size ≤ L) (keep : ∀ b o, g.get? b = some o → b ∉ frs outer → B.get? b = some o) (hBh : B.StaysIn h₅) (sm : g.UpToSlots h₅) (ns : h₅.Ns L m) :
    ∃ g', KtsTurn (frs outer) g g' ∧ Fr g' L h₅ m ∧ Below A₀ base outer g' := by
  obtain ⟨T, S⟩ := kts_turn_at (h := h₅) (fs := frs outer) (g := g)
    (fun b hb => by
      obtain ⟨_, o, ho, _⟩ := K.frames.mem hb
      exact ⟨o, ho⟩)
    (fun b o e nm => hBh b o (keep b o e nm))
    (fun b o e hm => by
      obtain ⟨_, o', ho', hd⟩ := K.frames.mem hm
      rw [e] at ho'
      cases ho'
      exact sm b o e hd)
  refine ⟨_, T, ⟨ns, S, by rw [T.size]; exact gL⟩, ⟨K.stack, fun b o e => T.other b o (K.stays b o e) (fun hm => by
    rw [(K.frames.mem hm).1] at e
    cases e), K.frames.of_keeps fun b o e _ => ?_⟩⟩
  obtain ⟨sl, hs⟩ := T.up e
  exact ⟨_, hs, rfl⟩
theorem caughtT (R : Thrown B (envOf name scope L a cd :: outer) (frs outer) e t d od g L m news s'.heap) (K : Below A₀ base outer g) (gL : g.objs.size ≤ L) (hnews : ∀ p ∈ news, g.get? p.1 = none) (XB : KF.In base) (TB : Top p loose mean mg mb base)
    (ex : nsIn KF mainGlobals x = some (some (.ref 44))) (q : ktsIn KF 44 "BaseException" = true)
    (k : ∀ h' g' oe ws tk, KtsTurn (frs outer) g g' → Fr g' L h' (fun y => if y = n then some (.ref e) else m y) → News g' L h' ((e, oe) :: (d, od) :: news) → oe.cls = .ref 44 → oe.dict = some d → oe.data = .fields ws → (∀ p ∈ news, @Ne Nat p.1 e) → Below A₀ base outer g' → KF.In g' → Top p loose mean mg mb g' →
      wpAny (model prog w) ((A₀.deeper (envOf name scope L a cd)).mark (some (.ref e))) (execs (b₀ :: suite) (envOf name scope L a cd))
        (fun f s₄ => wpAny (model prog w) (A₀.deeper (envOf name scope L a cd)) (do bindName (envOf name scope L a cd) n .none; unbindBehindTheSuite (envOf name scope L a cd) n pos) (fun _ s₅ => Q f s₅) E s₄)
        (AsSuiteRaised (model prog w) ((A₀.deeper (envOf name scope L a cd)).mark (some (.ref e))) (envOf name scope L a cd) n pos (notedBy (model prog w) ((A₀.deeper (envOf name scope L a cd)).mark (some (.ref e))) (envOf name scope L a cd) (cameBackBy (model prog w) (A₀.deeper (envOf name scope L a cd)) (envOf name scope L a cd) E)))
        { s' with heap := h', toks := tk })
    (hk : scope.kind = .function := by rfl) (hlo : (envOf name scope L a cd).kindOf n = some .local := by rfl) (hx : (envOf name scope L a cd).kindOf x = some .globalImplicit := by rfl) (hd : (x == ("__debug__" : Str)) = false := by decide) :
    wpAny (model prog w) (A₀.deeper (envOf name scope L a cd)) (noteFrame (.ref e) (envOf name scope L a cd))
      (fun _ s₂ => wpAny (model prog w) (A₀.deeper (envOf name scope L a cd)) (setFlight (.ref e) none) (fun _ s₃ =>
        wpAny (model prog w) (A₀.deeper (envOf name scope L a cd)) (handleBy (.ref e) (envOf name scope L a cd) (.ExceptHandler (some (.Name x np)) (some n) (b₀ :: suite) pos :: rest)) Q E s₃) E s₂) E s' := by
  obtain ⟨hfl, hdict, hdobj, hdnew, hdL, hkeep, hled, hsm, hns⟩ := R
  have hL : B.get? L = none := by
    obtain ⟨_, ⟨L', _, hf, hn', _⟩, _⟩ := hfl.2.2.1
    obtain rfl : L = L' := Option.some.inj hf
    exact hn'
  have step1 := wpAny_looks_onW (M := model prog w) (E := fun _ _ => False) (s := s') (Q := fun _ s₂ => ∃ h', s₂ = { s' with heap := h' } ∧ Heap.HeldW B (envOf name scope L a cd :: outer) e (.ref 44) (.ref t) L h' ∧ s'.heap.UpToSlots h')
    (Around.frames_deeper (env := envOf name scope L a cd) K.stack) rfl hfl fun h' x1 x2 => ⟨h', rfl, x1, x2⟩
  refine wpAny_mono (any_keeps (e := e) (d := some d) (keeps_noteFrame _ _) hdict step1) (fun _ s₂ z => ?_) fun _ _ z => z.1.elim
  obtain ⟨⟨h₄, rfl, hheld₄, hsm₄⟩, hdict₄⟩ := z
  have step2 := wpAny_landsW (M := model prog w) (A := A₀.deeper (envOf name scope L a cd)) (E := fun _ _ => False) (s := { s' with heap := h₄ }) (Q := fun _ s₂ => ∃ h', s₂ = { s' with heap := h' } ∧ Heap.FlyingW B (envOf name scope L a cd :: outer) e (.ref 44) (.ref t) h' ∧ h₄.UpToSlots h')
    hheld₄ fun h' x1 x2 => ⟨h', rfl, x1, x2⟩
  refine wpAny_mono (any_keeps (e := e) (d := some d) (keeps_setFlight _ _) hdict₄ step2) (fun _ s₂ z => ?_) fun _ _ z => z.1.elim
  obtain ⟨⟨h₅, rfl, hheld, hsm₅'⟩, hdict₅⟩ := z
  have hsm₅ := hsm₄.trans hsm₅'
  have sm₅ := hsm.trans hsm₅
  obtain ⟨g₅, T₅, F₅, K₅⟩ := thrown_ground K gL hkeep hheld.1 sm₅ (hsm₅.ns hns)
  have X₅ : KF.In g₅ := XB.keeps K₅.stays
  have P₅ : TopRead p loose mg mb g₅ := topRead_of (TB.keeps K₅.stays)
  obtain ⟨ob, hob, hobc⟩ := hheld.there
  obtain ⟨nm, q', N, bs, bm, hdct, sn, sub, ab, col, dd, k0, k1, k2, k3, k5, newId, hC, hbase, hbT⟩ := kts_cls X₅ q
  have hC₅ := F₅.keep _ _ hC
  refine wpAny_handleBy_cons (codeAny_handlers_test (name_K F₅ X₅ P₅ ex ?_ hk hx hd)) (by intro q; cases q)
  refine wpAny_excMatches_sub_self hC₅ hob hobc hbase (codeAny_handlers_suite_as ?_)
  have step3 := lands_againW (M := model prog w) (A := (A₀.deeper (envOf name scope L a cd)).mark (some (.ref e))) (E := fun _ _ => False) (s := { s' with heap := h₅ }) (Q := fun _ s₂ => ∃ h', s₂ = { s' with heap := h' } ∧ Heap.FlyingW B (envOf name scope L a cd :: outer) e (.ref 44) (.ref t) h' ∧ h₅.UpToSlots h')
    hheld fun h' x1 x2 => ⟨h', rfl, x1, x2⟩
  refine wpAny_mono (any_keeps (e := e) (d := some d) (keeps_setFlight _ _) hdict₅ step3) (fun _ s₂ z => ?_) fun _ _ z => z.1.elim
  obtain ⟨⟨h₆, rfl, hfl₆, hsm₆'⟩, hdict₆⟩ := z
  have sm₆ := sm₅.trans hsm₆'
  obtain ⟨g₆, T₆, F₆, K₆⟩ := thrown_ground K gL hkeep hfl₆.1 sm₆ ((hsm₅.trans hsm₆').ns hns)
  obtain ⟨oe, ws, hoe, hoec, hoed, hoe0⟩ := hfl₆.first
  obtain ⟨oe', hoe', hdd⟩ := hdict₆
  rw [hoe] at hoe'
  cases hoe'
  have eB : B.get? e = none := hfl₆.2.1
  have ge : g.get? e = none := by
    cases q : g.get? e with
    | none => rfl
    | some o =>
      by_cases hm : e ∈ frs outer
      · obtain ⟨_, o', ho', hd⟩ := K.frames.mem hm
        rw [q] at ho'
        cases ho'
        obtain ⟨sl, hs⟩ := sm₆ _ _ q hd
        rw [hoe] at hs
        cases hs
        exact absurd hoed (hd _)
      · have := hkeep e o q hm
        rw [eB] at this
        cases this
  have eL : e ≠ L := fun z => by
    obtain ⟨oL, es, ep, h1, h2, _⟩ := F₆.ns
    rw [← z, hoe] at h1
    cases h1
    rw [hoed] at h2
    cases h2
  have Nl : News g₆ L h₆ ((e, oe) :: (d, od) :: news) := fun q hq => by
    rcases List.mem_cons.mp hq with rfl | hq
    · exact ⟨hoe, eL, T₆.none_ _ ge⟩
    · rcases List.mem_cons.mp hq with rfl | hq
      · exact ⟨hfl₆.1 _ _ hdobj, hdL, T₆.none_ _ hdnew⟩
      · exact ⟨hfl₆.1 _ _ (hled q hq), (fun z => by have := hled q hq; rw [z, hL] at this; cases this), T₆.none_ _ (hnews q hq)⟩
  refine stN F₆ Nl (fun h₇ F₇ N₇ => ?_) hk hlo
  exact k h₇ g₆ oe ws _ T₆ F₇ N₇ hoec hdd hoed (fun p hp z => by have := hled p hp; rw [show p.1 = e from z, eB] at this; cases this) K₆ (XB.keeps K₆.stays) (TB.keeps K₆.stays)
end
end
section
open PySem.Spec
theorem find_own {K : Frag} {C : Addr} {cd : ClassData} {od : Obj} {name : Str} {v : Value} (hc : clsIn K C = some cd) (hdct : cd.hasDict = true) (hf : findIn K (.ref C) name = some none) (hl : lookIn name od = some (some v)) :
    findObj K C (some od) name = some (.value v) := by
  simp [findObj, hc, hf, W.ownOf, hdct, hl]
section
variable {prog : Program} {w : World} {A : Around} {E : Value → Shared → Prop} {h : Heap} {g : Array GenState} {d : Drawn} {t : Nat} {os : OsState} {e : Addr} {oe : Obj} {K : Frag} {C : Addr} {od : Obj} {name : Str} {v : Value}
theorem exc_entry {tk : Tok} {Q : Fin → Shared → Prop} (X : K.In h) (I : InstAt h e oe C (some od)) (hf : findObj K C (some od) name = some (.value v)) (hq : Q (.done (.ret v)) ⟨h, g, d, t, os⟩) :
    wpAny (model prog w) A (Builtin.«object.__getattribute__» ⟨[.ref e, .str name tk], []⟩) Q E ⟨h, g, d, t, os⟩ := by
  have L0 := I.type (M := model prog w)
  have L1 := looks_find (M := model prog w) X I hf
  refine wpAny_bind (wpAny_pure (wpAny_bind (wpAny_pure (wpAny_bind (L0.at (wpAny_bind (L1.at ?_)))))))
  exact wpAny_pure hq
theorem exc_check {M : Model} {nameV : Value} {Q : Unit → Shared → Prop} (X : K.In h) (I : InstAt h e oe C (some od)) (hsub : mroIn K C (.type "BaseException") = some true) (hq : Q () ⟨h, g, d, t, os⟩) :
    wpAny M A (checkBuiltinCall "BaseException.__getattribute__" ⟨[.ref e, nameV], []⟩) Q E ⟨h, g, d, t, os⟩ := by
  have hk : builtinKind "BaseException.__getattribute__" = some .slot := by decide +kernel
  have hsplit : splitId "BaseException.__getattribute__" = some ("BaseException", "__getattribute__") := by decide +kernel
  have ha := F.args_bexc_ga (.ref e) nameV
  have L0 := I.type (M := M)
  have L1 := looks_mroIn (M := M) X hsub
  simp only [checkBuiltinCall, hk, hsplit]
  refine wpAny_bind ?_
  unfold isInstance
  repeat (first | with_reducible refine Looks.at L0 ?_ | with_reducible refine Looks.at L1 ?_ | wp_step)
  exact hq
theorem exc_by {tk : Tok} {fill expr : Bool} {Q : Value → Shared → Prop} {bmB : List Value} (FB : ExcAttrBase "Exception" bmB) (X : K.In h) (I : InstAt h e oe C (some od)) (hsub : mroIn K C (.type "BaseException") = some true)
    (e1 : findIn K (.ref C) "__getattribute__" = some (some (.builtin "BaseException.__getattribute__"))) (e2 : findIn K (.ref C) "__getattr__" = some none)
    (hf : findObj K C (some od) name = some (.value v)) (hh : handedIn v = true) (hq : Q v ⟨h, g, d, t, os⟩) :
    wpAny (model prog w) A (getAttrBy (.ref e) (.str name tk) fill expr) Q E ⟨h, g, d, t, os⟩ := by
  have f3 := FB.ga.bind (.ref e)
  have hx0 : (expr && onTheHeap (Value.builtin "BaseException.__getattribute__")) = false := by cases expr <;> rfl
  have hx2 : (Value.builtin "BaseException.__getattribute__" == Value.builtin "object.__getattribute__") = false := by decide +kernel
  have hx1 : (onTheHeap (Value.ref C) && Value.builtin "BaseException.__getattribute__" == Value.builtin "object.__getattribute__") = false := by rw [hx2]; rfl
  have L0 := I.type (M := model prog w)
  have L1 := looks_findIn (M := model prog w) X e1
  have L2 := looks_findIn (M := model prog w) X e2
  repeat (any_goals (first | assumption | with_reducible refine Looks.at L0 ?_ | with_reducible refine Looks.at L1 ?_ | with_reducible refine Looks.at L2 ?_ | wp_step))
  refine codeAny_call_builtin FB.ga.plain F.entry_bexc_ga (exc_check X I hsub (exc_entry X I hf ?_))
  repeat (any_goals (first | assumption | wp_step))
  show wpAny _ _ (handedOut v) _ _ _
  rw [handedOut_of hh]
  exact wpAny_pure hq
theorem exc_attr {expr : Bool} {Q : Value → Shared → Prop} {bmB : List Value} (FB : ExcAttrBase "Exception" bmB) (X : K.In h) (I : InstAt h e oe C (some od)) (hsub : mroIn K C (.type "BaseException") = some true)
    (e1 : findIn K (.ref C) "__getattribute__" = some (some (.builtin "BaseException.__getattribute__"))) (e2 : findIn K (.ref C) "__getattr__" = some none)
    (hf : findObj K C (some od) name = some (.value v)) (hh : handedIn v = true) (hq : Q v ⟨h, g, d, t + 1, os⟩) :
    wpAny (model prog w) A (getAttr (.ref e) name expr) Q E ⟨h, g, d, t, os⟩ := by
  unfold getAttr
  exact wpAny_bind (wpAny_mkText (exc_by FB X I hsub e1 e2 hf hh hq))
end
theorem cls_of {K : Frag} {C : Addr} {c0 : Value} {dd : Option Addr} {cd : ClassData} {sl : Array (Option Value)} {mro : List Value} (h : K.lookup C = some ⟨c0, dd, .cls cd, sl⟩) (k1 : cd.hasDict = true) (k2 : cd.mro = mro) : ∃ cd, clsIn K C = some cd ∧ cd.hasDict = true ∧ cd.mro = mro :=
  ⟨cd, by unfold clsIn; rw [h], k1, k2⟩
/-- the message's dict -/
def MsgDict (msg : Str) (od : Obj) : Prop := ∃ (hs : Int) (t t2 : Tok) (n : Nat), od = dictOf [⟨hs, .str (Str.ofString "message") t, .str msg t2⟩] n
theorem msg_look {msg : Str} {od : Obj} (h : MsgDict msg od) : ∃ t, lookIn (Str.ofString "message") od = some (some (.str msg t)) := by
  obtain ⟨hs, t, t2, n, rfl⟩ := h
  exact ⟨t2, rfl⟩
theorem c44a (w : World) : findIn (Mine.hd.heap_39 w.params) (.ref 44) "__getattribute__" = some (some (.builtin "BaseException.__getattribute__")) := by k_is
theorem c44b (w : World) : findIn (Mine.hd.heap_39 w.params) (.ref 44) "__getattr__" = some none := by k_is
theorem c44c (w : World) : findIn (Mine.hd.heap_39 w.params) (.ref 44) "message" = some none := by k_is
theorem c44d (w : World) : findIn (Mine.hd.heap_39 w.params) (.ref 44) "__init__" = some (some (.ref 28)) := by k_is
theorem c44e (w : World) : findIn (Mine.hd.heap_39 w.params) (.ref 44) "__setattr__" = some (some (.builtin "object.__setattr__")) := by k_is
theorem c44s (w : World) : nsIn (Mine.hd.heap_39 w.params) mainGlobals "RangeError" = some (some (.ref 44)) := by k_is
theorem c44q (w : World) : ktsIn (Mine.hd.heap_39 w.params) 44 "BaseException" = true := by kts_isx
end
theorem off_L11 : True := by
  w_top off
  k_with_none
  (k_with "znz in" => first | with_reducible assumption | with_reducible exact List.mem_cons_self | ((with_reducible refine List.mem_cons_of_mem _ ?_); walk_at "nz in") | ((with_reducible refine List.mem_append_right _ ?_); walk_at "nz in") | ((with_reducible refine List.mem_append_left _ ?_); walk_at "nz in"))
  (k_with "znz hA" => exact rfl)
  (k_with "znz room" => (first | exact room1 (by with_reducible assumption) rfl | exact room2 (by with_reducible assumption) rfl | omega | ((try simp only [depth_under_make, depth_under_kw, depth_in1, depth_deeper]); (try dsimp only [nzA]); (try simp only [recursionLimit]); omega)))
  (k_with "znz units" => (first | exact room1 (by with_reducible assumption) rfl | exact room2 (by with_reducible assumption) rfl | omega | ((try simp only [units_in1, units_deeper, Around.mark_units]); (try dsimp only [nzA]); (try simp only [cLine]); omega)))
  (k_with "znz enter" => first | (refine' code_def ?q5k1 ?q5k2 ?q5k3 ?q5k4 ?q5k5 ?q5kA ?q5kF ?q5kK ?q5k6 ?q5k7 ?q5k8 ?q5k9 ?q5kB ?_ ?q5c2 ?q5c3 ?q5c4 ?q5c5; (case q5kA => walk_at "nz hA"); (case q5kF | q5kK => first | assumption | exact rfl); (case q5k1 | q5k2 | q5k3 | q5k4 | q5k5 => k_asm); (case q5k6 | q5k7 => k_is); (case q5k8 => walk_at "nz room"); (case q5k9 => exact BindsTo.of_eq rfl); (case q5c5 => decide); (case q5kB => exact locs rfl); (case q5c2 | q5c3 | q5c4 => exact rfl); k_whole; intro gpq5 Lpq5 hpq5 FGpq5 Fpq5 Npq5 Bpq5 Xpq5 Tpq5; (try dsimp only); (try k_lift Bpq5); (try k_fold); with_reducible refine anyE fun EE => ?_) | (refine' code_defC ?q5k1 ?q5k2 ?q5k3 ?q5k4 ?q5k5 ?q5kA ?q5kF ?q5kK ?q5k6 ?q5k7 ?q5k8 ?q5k9 ?q5kB ?q5kD ?_ ?q5c2 ?q5c3 ?q5c4; (case q5kA => walk_at "nz hA"); (case q5kF | q5kK => first | assumption | exact rfl); (case q5k1 | q5k2 | q5k3 | q5k4 | q5k5 => k_asm); (case q5k6 | q5k7 => k_is); (case q5k8 => walk_at "nz room"); (case q5k9 => exact BindsTo.of_eq rfl); (case q5kB => exact rfl); (case q5kD => decide +kernel); (case q5c2 | q5c3 | q5c4 => exact rfl); k_whole; intro gpq5 Lpq5 hpq5 tkpq5 cellspq5 FGpq5 Fpq5 Npq5 Ypq5 Bpq5 Xpq5 Tpq5 l1q5; (try k_lt l1q5); k_cells Ypq5; (try simp only [List.cons_append, List.nil_append] at Npq5); (try dsimp only); (try k_lift Bpq5); (try k_fold); with_reducible refine anyE fun EE => ?_))
  (k_with "zeval ListComp" => (k_here; refine Hold.go ?_))
  (k_with "zexec Assign cons ListComp" => (k_here; refine Hold.go ?_))
  (k_with "zcall ref" => (k_here; refine Hold.go ?_))
  (k_with "zexec For" => (k_here; refine Hold.go ?_))
  (k_with "znz fit" => (first | with_reducible assumption | exact fit_row (by with_reducible assumption) (by with_reducible assumption) | exact lt_len (by with_reducible assumption) (by with_reducible assumption) | omega | ((try simp only [List.length_map, List.length_cons, List.length_nil, List.size_toArray]); omega)))
  (k_with "zcall builtin:len" => (k_here; (with_reducible show wpAny _ _ (call (Value.builtin "len") [Value.ref _]) _ _ _); k_dflt (refine' nz_len ?q11N ?q11m ?q11f ?_; (case q11N => k_asm); (case q11m => k_mem); (case q11f => walk_at "nz fit"); k_whole)))
  (k_with "zsubscriptTail" => (k_here; (with_reducible show wpAny _ _ (subscriptTail _ _ (Value.ref _) (Value.int _ _)) _ _ _); k_dflt (refine' nz_item ?q12N ?q12m ?q12a ?q12b ?q12f ?_ ?q12k; (case q12N => k_asm); (case q12m => k_mem); (case q12a | q12b | q12f => walk_at "nz fit"); (case q12k => with_unfolding_all rfl); k_whole); intro vpq12 hvpq12))
  (k_with "zexecs cons" => (k_here; first | k_gentoks | (k_made; walk_at "execs cons") | (with_reducible refine cut_cons fun qk hqk => ?_)))
  (k_with "zQEnd" => (refine' behind_go ?q14h ?_; (case q14h => with_reducible assumption); dsimp only))
  (k_with "zeval Name" => (k_here; (with_reducible show wpAny _ _ (eval (Expr.Name _ _) (compEnvC _ _ _ _)) _ _ _); k_dflt (first | refine LCgL.ld_own (by k_asm) (by k_mem) (by assumption) (by assumption) ?_ | refine kcf_cell (by k_asm) (by rfl) (by k_mem) (by k_asm) ?_ | refine LCgL.ld_global (by k_asm) (by k_asm) (by k_asm) (by k_is) ?_ | refine LCgL.ld_built (by k_asm) (by k_asm) (by k_asm) (by k_is) (by boot_by_name) (by decide) ?_ | refine Hold.go ?_)))
  (k_with "zCompEnd" => (k_here; refine Hold.go ?_))
  (k_with "zCompSrc" => (k_here; refine Hold.go ?_))
  (k_with "znz sub" => first | with_reducible assumption | exact fun _ h => h | (intro p9q22 hp9q22; walk_at "nz in") | (intro p9q22 hp9q22; k_mem))
  (k_with "znz item" => (k_here; (with_reducible show wpAny _ _ (subscriptTail _ _ (Value.ref _) (Value.int _ _)) _ _ _); k_dflt (first | (refine' mat_item ?q23N ?q23m ?q23s ?q23a ?q23b ?q23f ?_ ?q23k; (case q23m => with_reducible assumption); (case q23N => k_asm); (case q23s => walk_at "nz sub"); (case q23a | q23b | q23f => walk_at "nz fit"); (case q23k => with_unfolding_all rfl); k_whole; intro bpq23 rowpq23 hrowpq23 hbrpq23; (try (have hlpq23 := Mat.getRow (by with_reducible assumption) hrowpq23))) | (refine' row_item ?q23N ?q23m ?q23s ?q23a ?q23b ?q23f ?_ ?q23k; (case q23m => with_reducible assumption); (case q23N => k_asm); (case q23s => walk_at "nz sub"); (case q23a | q23b | q23f => walk_at "nz fit"); (case q23k => with_unfolding_all rfl); k_whole; intro ipq23 tpq23 hipq23))))
  (k_with "zsubscriptTail" => walk_at "nz item")
  (k_with "zcall builtin:len" => (k_here; (with_reducible show wpAny _ _ (call (Value.builtin "len") [Value.ref _]) _ _ _); k_dflt (first | (refine' mat_len ?q25N ?q25m ?q25s ?q25f ?_; (case q25m => with_reducible assumption); (case q25N => k_asm); (case q25s => walk_at "nz sub"); (case q25f => walk_at "nz fit"); k_whole) | (refine' row_len ?q25N ?q25m ?q25s ?q25f ?_; (case q25m => with_reducible assumption); (case q25N => k_asm); (case q25s => walk_at "nz sub"); (case q25f => walk_at "nz fit"); k_whole))))
  (k_with "zcompareOp Eq ref ref" => (k_here; k_dflt (refine' mat_eq ?q26N ?q26a ?q26b ?q26c ?q26d ?q26u ?_; (case q26a | q26c => with_reducible assumption); (case q26N => k_asm); (case q26b | q26d => walk_at "nz sub"); (case q26u => walk_at "nz units"); k_whole)))
  (k_with "zcompareOp NotEq ref ref" => (k_here; k_dflt (refine' mat_ne ?q27N ?q27a ?q27b ?q27c ?q27d ?q27u ?_; (case q27a | q27c => with_reducible assumption); (case q27N => k_asm); (case q27b | q27d => walk_at "nz sub"); (case q27u => walk_at "nz units"); k_whole)))
  (k_with "zcall type:list" => (k_here; (with_reducible show wpAny _ _ (call (Value.type _) [Value.ref _]) _ _ _); k_dflt (refine' row_copy ?q29F ?q29N ?q29m ?q29s ?q29f ?_; (case q29m => with_reducible assumption); (case q29F | q29N => k_asm); (case q29s => walk_at "nz sub"); (case q29f => walk_at "nz fit"); k_whole); intro Dpq29 opq29 hpq29 Fpq29 Npq29 l1pq29 hDpq29; (have nzqpq29 := l1pq29); (k_lt l1pq29); (try k_sweep); (try dsimp only)))
  (k_with "zsubscriptTail Name Slice ref ref" => (k_here; (with_reducible show wpAny _ _ (subscriptTail _ (PySem.Expr.Slice none none (some _) _) (Value.ref _) (Value.ref _)) _ _ _); k_dflt (first | (refine' row_rev ?q30F ?q30N ?q30m ?q30s ?q30f ?q30k ?_ ?q30e ?q30t; (case q30m => with_reducible assumption); (case q30F | q30N => k_asm); (case q30s => walk_at "nz sub"); (case q30f => walk_at "nz fit"); (case q30k => exact IsPart.int _ _); (case q30e => with_unfolding_all rfl); (case q30t => kmk_pure)) | (refine' mat_rev ?q30F ?q30N ?q30m ?q30s ?q30f ?q30k ?_ ?q30e ?q30t; (case q30m => with_reducible assumption); (case q30F | q30N => k_asm); (case q30s => walk_at "nz sub"); (case q30f => walk_at "nz fit"); (case q30k => exact IsPart.int _ _); (case q30e => with_unfolding_all rfl); (case q30t => kmk_pure))); intro Dpq30 opq30 hpq30 Fpq30 Npq30 l1pq30 hDpq30; (have nzqpq30 := l1pq30); (k_lt l1pq30); (try k_sweep); (try dsimp only)))
  (k_with "zEltEnd" => (k_here; refine Hold.go ?_))
  (k_with "zTurnC" => (k_here; refine Hold.go ?_))
  (k_with "zpyIter ref" => (k_here; refine Hold.go ?_))
  (k_with "zTurnU" => (k_here; refine Hold.go ?_))
  (k_with "zexec For Name Call cons nil" => (k_here; k_dflt (refine wpAny_For ?_)))
  (k_with "zexec For" => (k_here; k_dflt (refine wpAny_For ?_)))
  (k_with "zcompareOp Eq ref ref" => (k_here; k_dflt (refine' mat_eqNil ?q40N ?q40a ?q40b ?q40c ?q40u ?_; (case q40a => with_reducible assumption); (case q40N => k_asm); (case q40b => walk_at "nz sub"); (case q40c => k_mem); (case q40u => walk_at "nz units"); k_whole)))
  (k_with "zcompareOp Eq ref ref" => (k_here; k_dflt (refine' mat_neNil ?q41N ?q41a ?q41b ?q41e ?q41c ?q41u ?_; (case q41a | q41e => with_reducible assumption); (case q41N => k_asm); (case q41b => walk_at "nz sub"); (case q41c => k_mem); (case q41u => walk_at "nz units"); k_whole)))
  (k_with "zcompareOp Eq ref ref" => (k_here; k_dflt (refine' mat_eq ?q42N ?q42a ?q42b ?q42c ?q42d ?q42u ?_; (case q42a | q42c => with_reducible assumption); (case q42N => k_asm); (case q42b | q42d => walk_at "nz sub"); (case q42u => walk_at "nz units"); k_whole)))
  (k_with "zexec Raise" => (k_here; refine Hold.go ?_))
  (k_with "znz dec" => ((try simp only [beq_iff_eq, bne_iff_ne, decide_eq_true_eq, ne_eq, Bool.not_eq_true', Bool.not_eq_true]); omega))
  (k_with "zite" => (k_here; k_dflt (first | refine ite_pos (by walk_at "nz dec") ?_ | refine ite_neg (by walk_at "nz dec") ?_)))
  (k_with "znz subs" => first | walk_at "nz item" | (k_here; k_dflt (first | ((with_reducible show wpAny _ _ (subscriptTail _ _ (Value.ref _) (Value.int 0 _)) _ _ _); refine' nz_pair0 ?q48N ?q48m ?_ ?q48k; (case q48N => k_asm); (case q48m => k_mem); (case q48k => with_unfolding_all rfl); k_whole) | ((with_reducible show wpAny _ _ (subscriptTail _ _ (Value.ref _) (Value.int 1 _)) _ _ _); refine' nz_pair1 ?q48N ?q48m ?_ ?q48k; (case q48N => k_asm); (case q48m => k_mem); (case q48k => with_unfolding_all rfl); k_whole))))
  (k_with "zsubscriptTail Name" => walk_at "nz subs")
  (k_with "zsubscriptTail Subscript" => walk_at "nz subs")
  (k_with "zSrcK" => (k_here; refine Hold.go ?_))
  (k_with "zgetAttr ref" => (k_here; k_dflt (first | ((with_reducible show wpAny _ _ (getAttr (Value.ref _) (Str.ofString "rows") true) _ _ _); refine' pl_rows ?q60F ?q60X ?q60N ?q60hp ?q60s ?_; (case q60hp => with_reducible assumption); (case q60F | q60X | q60N => k_asm); (case q60s => walk_at "nz sub"); k_whole) | ((with_reducible show wpAny _ _ (getAttr (Value.ref _) (Str.ofString "width") true) _ _ _); refine' pl_width ?q60F ?q60X ?q60N ?q60hp ?q60s ?_; (case q60hp => with_reducible assumption); (case q60F | q60X | q60N => k_asm); (case q60s => walk_at "nz sub"); k_whole; intro wtpq60) | ((with_reducible show wpAny _ _ (getAttr (Value.ref _) (Str.ofString "height") true) _ _ _); refine' pl_height ?q60F ?q60X ?q60N ?q60hp ?q60s ?_; (case q60hp => with_reducible assumption); (case q60F | q60X | q60N => k_asm); (case q60s => walk_at "nz sub"); k_whole; intro wtpq60)); (try dsimp only)))
  (k_with "zgetAttr ref" => (k_here; (with_reducible show wpAny _ _ (getAttr (Value.ref _) (Str.ofString "message") true) _ _ _); k_dflt (refine' msg_attr ?q65X ?q65F ?q65N ?q65he ?q65hd ?q65hc ?q65hdd ?q65ho ?q65hm ?_; (case q65hc | q65hdd | q65ho | q65hm => with_reducible assumption); (case q65X | q65F | q65N => k_asm); (case q65he | q65hd => k_mem); k_whole); intro tpq65; (try dsimp only)))
  trivial
section
variable {w : World} {mean : ExcName → Option Value} {mg mb : Str → Option Value} {A₀ : Around} {dp un : Nat} {gd : Option (List Code)} {env : Env} {outer : List Env} {base h₀ : Heap} {L : Addr} {m : Str → Option Value} {s : Shared} {R : Result → Shared → Prop} {news : List (Addr × Obj)}
  (B : Below A₀ base outer h₀) (F : Fr h₀ L s.heap m) (X : (Mine.hd.heap_39 w.params).In h₀) (T : TopH mean mg mb h₀)
  (hf : env.frame = some L) (hk : env.scope.kind = .function)
include B F X T hf hk

omit B F X T hf hk in
theorem msg_attr {A : Around} {E : Value → Shared → Prop} {s : Shared} {h₀ : Heap} {L e d : Addr} {m : Str → Option Value} {news : List (Addr × Obj)} {oe od : Obj} {ws : Array Value} {msg : Str} {Q : Value → Shared → Prop} (X : (Mine.hd.heap_39 w.params).In h₀) (F : Fr h₀ L s.heap m) (N : News h₀ L s.heap news) (he : (e, oe) ∈ news) (hd : (d, od) ∈ news)
    (hc : oe.cls = .ref 44) (hdd : oe.dict = some d) (ho : oe.data = .fields ws) (hm : MsgDict msg od) (h : ∀ t, Q (.str msg t) { s with toks := s.toks + 1 }) :
    wpAny (model PySem.Challenge.pw_nz0241_01 w) A (getAttr (.ref e) (Str.ofString "message") true) Q E s := by
  obtain ⟨t, ht⟩ := msg_look hm
  obtain ⟨hh, g, dr, tk, os⟩ := s
  have X' := X.keeps F.keep
  have I : W.InstAt hh e oe 44 (some od) := ⟨(N _ he).1, hc, by unfold W.notCls; rw [ho], by rw [hdd]; exact (N _ hd).1⟩
  have c1 := c44a w
  have c2 := c44b w
  have c3 := c44c w
  have c4 : ∃ cd, clsIn (Mine.hd.heap_39 w.params) 44 = some cd ∧ cd.hasDict = true ∧ cd.mro = [Value.ref 44, Value.ref 31, Value.type "Exception", Value.type "BaseException", Value.type "object"] := by
    refine' cls_of ?h ?k1 ?k2
    case h => k_is
    case k1 => rfl
    case k2 => rfl
  obtain ⟨cd, c4, c5, c6⟩ := c4
  exact exc_attr PySem.F.attrBase_Exception X' I (by unfold mroIn; rw [c4, Option.bind_some, c6]; rfl) c1 c2 (find_own c4 c5 c3 ht) rfl (h t)

def Deed (w : World) (mean : ExcName → Option Value) (mg mb : Str → Option Value) (gd : Option (List Code)) (f : Addr) (news : List (Addr × Obj)) : Prop :=
  ∀ (A₁ : Around) (dp un : Nat) (env : Env) (outer : List Env) (base h₀ : Heap) (L : Addr) (m : Str → Option Value) (s : Shared) (R : Result → Shared → Prop) (nl : List (Addr × Obj)),
    Below A₁ base outer h₀ → Fr h₀ L s.heap m → (Mine.hd.heap_39 w.params).In h₀ → TopH mean mg mb h₀ → env.frame = some L → env.scope.kind = .function → News h₀ L s.heap nl → (∀ p ∈ news, p ∈ nl) → dp + 10 ≤ 400 → un + 200 ≤ 1000 →
    (∀ B e t d od msg h' tk', MsgDict msg od → msg ≠ Str.ofString "" → Thrown B (env :: outer) (frs outer) e t d od h₀ L m nl h' → R (.error (.ref e)) { s with heap := h', toks := tk' }) →
    codeAny (model PySem.Challenge.pw_nz0241_01 w) (nzA dp un gd env outer) (.call (.ref f) ⟨[], []⟩) R s
theorem refused_t {f : Addr} (XB : (Mine.hd.heap_39 w.params).In base) (TB : TopH mean mg mb base) (N : News h₀ L s.heap news) (D : Deed w mean mg mb gd f news) {fc : Value} {fod : Option Addr} {fd : FuncData} {fsl : Array (Option Value)} (hfo : (f, (⟨fc, fod, .func fd, fsl⟩ : Obj)) ∈ news) (hd : dp + 12 ≤ 400) (hu : un + 240 ≤ 1000)
    (ret : ∀ h₀' h' tk', KtsTurn (frs outer) h₀ h₀' → Fr h₀' L h' m → News h₀' L h' news → Below A₀ base outer h₀' → R (.ok (.ret (.bool true))) { s with heap := h', toks := tk' }) :
    codeAny (model PySem.Challenge.pw_nz0241_01 w) (nzA dp un gd env outer) (.call (.ref 169) ⟨[.ref f], []⟩) R s := by
  k_dflt (refine' code_defT ?k1 ?k2 ?k3 ?k4 ?k5 ?kA ?kF ?kK ?k6 ?k7 ?k8 ?k9 ?kB ?_ ?c2 ?c3 ?c4 ?c5; (case kA => exact rfl); (case kF => first | assumption | exact rfl); (case kK => first | assumption | exact rfl); (case k1 => k_asm); (case k2 => k_asm); (case k3 => k_asm); (case k4 => k_asm); (case k5 => k_asm); (case k6 => k_is); (case k7 => k_is); (case k8 => walk_at "nz room"); (case k9 => exact BindsTo.of_eq rfl); (case c5 => decide); (case kB => exact locs rfl); (case c2 => exact rfl); (case c3 => exact rfl); (case c4 => exact rfl); k_whole; intro g1 L1 h1 FG1 F1 N1 B1 X1 T1; (try dsimp only); (try k_lift B1); (try k_fold))

  k_steps
  k_dflt (refine callWith_F0 (FnAt.of N1 hfo) ?_)
  dsimp only [List.nil_append]
  refine wpAny_call ?_
  k_dflt (refine' D _ (dp + 1) (un + 3) _ _ _ _ _ _ _ _ _ ?kB ?kF ?kX ?kT ?hf ?hk ?kN ?hs ?hd ?hu ?_)
  case kB => exact B1
  case kF => exact F1
  case kX => exact X1
  case kT => exact T1
  case kN => exact N1
  case hf => exact rfl
  case hk => exact rfl
  case hs => exact fun _ h => h
  case hd => omega
  case hu => omega
  intro B e t d od msg h' tk' hmd hne R'
  dsimp only
  k_dflt (refine' caughtT R' B1 F1.above (fun p hp => (N1 p hp).2.2) XB TB (c44s w) (c44q w) ?_)
  intro h2 g2 oe ws tk2 T2 F2 N2 hoc hod hof hnn B2 X2 P2
  k_steps
  rw [show (msg != Str.ofString "") = true from bne_iff_ne.mpr hne]
  (rename News _ _ _ _ => N9)
  (rename Fr _ _ _ _ => F9)
  exact ⟨g2, L1, _, news, T2, F9, newsSub N9 (by intro p hp; walk_at "nz in"), fun h₀' T' F' N' B' => ret h₀' _ _ T' F' N' B'⟩

end
section
open PySem.Spec
section
variable {prog : Program} {w : World} {A : Around} {s : Shared} {R : Result → Shared → Prop} {K : Frag} {h₀ : Heap} {L e C : Addr} {m : Str → Option Value} {news : List (Addr × Obj)} {name : Str} {v : Value} {ws : Array Value}
abbrev rawObj (C : Addr) (ws : Array Value) : Obj := { cls := .ref C, data := .fields ws }
abbrev rawObjD (C : Addr) (ws : Array Value) (d : Addr) : Obj := { cls := .ref C, dict := some d, data := .fields ws }
theorem exc_set {tk : Tok} {cd : ClassData} (F : Fr h₀ L s.heap m) (N : News h₀ L s.heap ((e, rawObj C ws) :: news)) (X : K.In s.heap) (hne : ∀ p ∈ news, @Ne Nat p.1 e)
    (hc : clsIn K C = some cd) (hdct : cd.hasDict = true) (hmro : cd.mro = [Value.ref 44, Value.ref 31, Value.type "Exception", Value.type "BaseException", Value.type "object"]) (hf : findIn K (.ref C) name = some none)
    (h : ∀ d od h' tk', (∃ (hs : Int) (t : Tok) (n : Nat), od = dictOf [⟨hs, .str name t, v⟩] n) → @Ne Nat d e → Fr h₀ L h' m → News h₀ L h' ((e, rawObjD C ws d) :: (d, od) :: news) → R (.ok (.ret .none)) { s with heap := h', toks := tk' }) :
    codeAny (model prog w) A (.call (.builtin "object.__setattr__") ⟨[.ref e, .str name tk, v], []⟩) R s := by
  have SF := PySem.F.store_Exception
  have I : W.InstAt s.heap e (rawObj C ws) C none := ⟨(N _ (.head _)).1, rfl, rfl, trivial⟩
  have ne : cd.mro.isEmpty = false := by rw [hmro]; rfl
  have sub : Looks (model prog w) s.heap (isInstance (.ref e) (.type "object")) true := I.type.andThen (looks_mroIn X (by unfold mroIn; rw [hc, Option.bind_some, if_neg (by rw [ne]; decide), hmro]; rfl))
  refine codeAny_call_builtin SF.slot.plain SF.entry (@check_slot (model prog w) _ _ s "object.__setattr__" "object" "__setattr__" (.ref e) [.str name tk, v] [] _ SF.kind SF.split sub (SF.args (.ref e) (.str name tk) v) ?_)
  have hm : Looks (model prog w) s.heap (mroOf (.ref C)) cd.mro := (looks_clsIn X hc).andThen .now
  rw [osa_eq, refuse_eq]
  refine wpAny_bind (wpAny_bind (I.type.here (wpAny_bind (hm.here ?_))))
  rw [hmro, refuseLoop_ref, refuseLoop_ref, SF.passes]
  refine wpAny_pure (wpAny_bind (I.type.here (wpAny_bind ((looks_findIn X hf).here (wpAny_bind (wpAny_pure ?_))))))
  refine wpAny_bind (wpAny_pure (wpAny_bind (wpAny_bind (wpAny_loadPart (N _ (.head _)).1 (wpAny_bind ((looks_clsIn X hc).here ?_))))))
  rw [hdct]
  refine wpAny_bind (m := alloc _) (wpAny_alloc ?_)
  have F1 := F.push emptyDict
  have N1 := News.push F N emptyDict
  have de : @Ne Nat s.heap.objs.size e := Nat.ne_of_gt (Heap.lt_size (N _ (.head _)).1)
  have dn : ∀ p ∈ news, @Ne Nat p.1 s.heap.objs.size := fun p hp => Nat.ne_of_lt (Heap.lt_size (N p (.tail _ hp)).1)
  generalize s.heap.push emptyDict = h1 at F1 N1 ⊢
  generalize s.heap.objs.size = d at N1 de dn ⊢
  refine wpAny_bind (m := update _ _) (wpAny_update (N1 _ (.tail _ (.head _))).1 ?_)
  obtain ⟨F2, N2⟩ := news_upd (pre := [(d, emptyDict)]) (post := news) (o' := rawObjD C ws d) (f := fun o => { o with dict := some d }) F1 N1 (fun p hp => by rw [List.mem_singleton.mp hp]; exact de) hne rfl rfl
  generalize h1.update e (fun o => { o with dict := some d }) = h2 at F2 N2 ⊢
  refine wpAny_pure ?_
  refine wpAny_bind (wpAny_pure (wpAny_bind ?_))
  unfold nsSet
  refine wpAny_bind (wpAny_bind (wpAny_askSetting (wpAny_pure (wpAny_bind (wpAny_mkText (wpAny_bind (wpAny_loadPart (N2 _ (.head _)).1 ?_)))))))
  dsimp only
  generalize (if name.cps.isEmpty = true then (0 : Int) else reduceHash ((model prog w).w.params.strHash name.cps)) = hs
  have c : aRefKeyMayBeTheName name #[] = false := by rw [aRefKeyMayBeTheName_at]; simp
  rw [c, if_neg (by decide)]
  refine wpAny_updatePart (N2 _ (.head _)).1 ?_
  have ep : Obj.putName name hs (.str name s.toks) v emptyDict = dictOf [⟨hs, .str name s.toks, v⟩] (putN name [] 0) := (putName_dict name hs (.str name s.toks) v [] 0).trans (by simp [putL])
  obtain ⟨F3, N3⟩ := news_upd (pre := []) (post := (e, rawObjD C ws d) :: news) (o' := dictOf [⟨hs, .str name s.toks, v⟩] (putN name [] 0)) (f := Obj.putName name hs (.str name s.toks) v) F2 N2 (fun _ h => nomatch h) (List.forall_mem_cons.mpr ⟨Ne.symm de, dn⟩) ep rfl
  refine wpAny_bind (wpAny_lookBehind (N3 _ (.head _)).1 (pastItsLine_dict (by rw [List.size_toArray, sizeLine_eq]; simp)) ?_)
  refine wpAny_pure (h d _ _ _ ⟨hs, s.toks, putN name [] 0, rfl⟩ de F3 (newsSub N3 fun p hp => ?_))
  simp only [List.nil_append, List.mem_cons] at hp ⊢
  rcases hp with h | h | h <;> simp [h]

theorem exc_binit {t0 : Addr} {rest : List Value} {cd : ClassData} {c0 : Value} {dd : Option Addr} {sl : Array (Option Value)} (hlk : K.lookup C = some ⟨c0, dd, .cls cd, sl⟩) (F : Fr h₀ L s.heap m) (N : News h₀ L s.heap ((e, rawObj C #[.ref t0, .none, .none, .none, .bool false, .none]) :: news)) (X : K.In s.heap) (hne : ∀ p ∈ news, @Ne Nat p.1 e)
    (hsub : mroIn K C (.type "Exception") = some true) (hrest : rest.length ≤ sizeLine)
    (h : ∀ t h', Fr h₀ L h' m → News h₀ L h' ((e, rawObj C #[.ref t, .none, .none, .none, .bool false, .none]) :: news) → R (.ok (.ret .none)) { s with heap := h' }) :
    codeAny (model prog w) A (.call (.builtin "Exception.__init__") ⟨.ref e :: rest, []⟩) R s := by
  have FB := PySem.F.excBase_Exception
  have I : W.InstAt s.heap e (rawObj C #[.ref t0, .none, .none, .none, .bool false, .none]) C none := ⟨(N _ (.head _)).1, rfl, rfl, trivial⟩
  have L0 := I.type (M := model prog w)
  have L1 := looks_mroIn (M := model prog w) X hsub
  have he := (N _ (.head _)).1
  have hshort := FB.noStar
  have hC := X _ _ hlk
  obtain ⟨hp, g, dr, tk, os⟩ := s
  refine codeAny_call_builtin FB.init.plain FB.initEntry ?_
  · simp only [checkBuiltinCall, FB.initKind, FB.initSplit, FB.initRow]
    unfold isInstance
    repeat (first | with_reducible refine Looks.at L0 ?_ | with_reducible refine Looks.at L1 ?_ | with_reducible refine wpAny_load hC ?_ | wp_step)
    refine wpAny_onRaise ?_
    rw [show ∀ (a b : String) (n : Nat), Bind.check ⟨.positional, "*", "Exception", .self, [⟨"args", .varPos, false⟩]⟩ a b n (List.map (fun x => x.fst) ({ pos := Value.ref e :: rest } : Args).kw) = pure () from
      fun a b n => check_star_args _ _ _ _ _ _]
    refine wpAny_pure ?_
    dsimp only at he F N
    wp_walk
    have de : @Ne Nat hp.objs.size e := Nat.ne_of_gt (Heap.lt_size he)
    obtain ⟨F2, N2⟩ := news_upd (pre := [(hp.objs.size, ({ cls := .type "tuple", data := .seq rest.toArray } : Obj))]) (post := news) (o' := rawObj C #[.ref hp.objs.size, .none, .none, .none, .bool false, .none])
      (f := Obj.mapFields fun x => x.setIfInBounds 0 (Value.ref hp.objs.size)) (F.push { cls := .type "tuple", data := .seq rest.toArray }) (News.push F N { cls := .type "tuple", data := .seq rest.toArray }) (fun p hp => by rw [List.mem_singleton.mp hp]; exact de) hne rfl rfl
    exact h _ _ F2 (newsSub N2 fun p hp => .tail _ hp)
end
section
variable {prog : Program} {w : World} {A : Around} {E : Value → Shared → Prop} {h : Heap} {g : Array GenState} {d : Drawn} {t : Nat} {os : OsState}
variable {nm q : Str} {C N : Addr} {bs bm : List Value} {hdct : Bool} {sn : List Str} {sub : List Value} {ab : Bool} {col : Option Bool} {dd : Option Addr} {k0 k1 k2 k3 k5 : Option Value}
theorem exc_check_new {M : Model} {rest : List Value} {Q : Unit → Shared → Prop} (hcont : (Value.ref C :: bm).contains (.type "Exception") = true)
    (hC : h.get? C = some (excClassObj nm q C N bs bm hdct sn sub ab col dd k0 k1 k2 k3 k5 "Exception.__new__"))
    (hq : Q () ⟨h, g, d, t, os⟩) : wpAny M A (checkBuiltinCall "Exception.__new__" ⟨.ref C :: rest, []⟩) Q E ⟨h, g, d, t, os⟩ := by
  have FB := PySem.F.excBase_Exception
  have hstar := FB.noStar
  simp only [checkBuiltinCall, FB.newKind, FB.newSplit, FB.newRow]
  repeat (first | refine wpAny_loadPart_at hC ?_ | (refine wpAny_isSubtype_exc hC ?_; rw [hcont]) | refine wpAny_staticBase_exc hC ?_ | refine wpAny_madeBy_exc hC ?_ | simp only [bne_self_eq_false, Bool.false_eq_true, if_false] | wp_step)
  exact hq
theorem exc_new_own {R : Result → Shared → Prop} {rest : List Value} (hcB : (Value.ref C :: bm).contains (.type "Exception") = true) (hcA : (Value.ref C :: bm).contains (.type "AttributeError") = false) (hcN : (Value.ref C :: bm).contains (.type "NameError") = false)
    (hC : h.get? C = some (excClassObj nm q C N bs bm hdct sn sub ab col dd k0 k1 k2 k3 k5 "Exception.__new__"))
    (hq : R (.ok (.ret (.ref (h.objs.size + 1)))) ⟨(h.push { cls := .type "tuple", data := .seq rest.toArray }).push
      { cls := .ref C, data := .fields #[.ref h.objs.size, .none, .none, .none, .bool false, .none] }, g, d, t, os⟩) (hrest : rest.length ≤ sizeLine) :
    codeAny (model prog w) A (.builtin "Exception.__new__" ⟨.ref C :: rest, []⟩) R ⟨h, g, d, t, os⟩ := by
  have FB := PySem.F.excBase_Exception
  have hends := FB.ends
  refine codeAny_builtinAt FB.entry ?_
  unfold Builtin.«BaseException.__new__»
  refine PySem.wpAt_bind ?_
  show PySem.wpAt _ _ _ (PySem.stack >>= _) _ _ _
  refine PySem.wpAt_bind (PySem.wpAt_stack fun p below => PySem.wpAt_of_wpAny ?_)
  wp_walk
  refine PySem.wpAt_of_wpAny ?_
  rw [FB.owner]
  repeat (first | with_reducible refine wpAny_madeHere_exc FB.canon hC ?_ | with_reducible refine wpAny_loadPart_at hC ?_ | (with_reducible refine wpAny_isSubtype_exc hC ?_; first | rw [hcB] | rw [hcA] | rw [hcN]) | wp_step)
  show R _ _
  rw [Heap.size_push]
  exact hq
end
end
section
open PySem.Spec
section
variable {prog : Program} {w : World} {A : Around} {E : Value → Shared → Prop} {h : Heap} {g : Array GenState} {d : Drawn} {t : Nat} {os : OsState} {K : Frag}
variable {nm q : Str} {C N fI : Addr} {bs bm : List Value} {hdct : Bool} {sn : List Str} {sub : List Value} {ab : Bool} {col : Option Bool} {dd : Option Addr} {k0 k1 k2 k3 k5 : Option Value}
abbrev excHeap (h : Heap) (C : Addr) (rest : List Value) : Heap := (h.push { cls := .type "tuple", data := .seq rest.toArray }).push { cls := .ref C, data := .fields #[.ref h.objs.size, .none, .none, .none, .bool false, .none] }
theorem exc_type_call {rest : List Value} {Q : PySem.Fin → Shared → Prop} (hcB : (Value.ref C :: bm).contains (.type "Exception") = true) (hcA : (Value.ref C :: bm).contains (.type "AttributeError") = false) (hcN : (Value.ref C :: bm).contains (.type "NameError") = false)
    (X : K.In h) (hC : h.get? C = some (excClassObj nm q C N bs bm hdct sn sub ab col dd k0 k1 k2 k3 k5 "Exception.__new__")) (hi : findIn K (.ref C) "__init__" = some (some (.ref fI))) (hfI : typeIn K (.ref fI) = some (.type "function"))
    (hq : wpAny (model prog w) A (call (.ref fI) (.ref (h.objs.size + 1) :: rest)) (fun r s' => r = .none ∧ Q (.done (.ret (.ref (h.objs.size + 1)))) s') E ⟨excHeap h C rest, g, d, t, os⟩) (hrest : rest.length ≤ sizeLine) :
    wpAny (model prog w) A (Builtin.«type.__call__» ⟨.ref C :: rest, []⟩) Q E ⟨h, g, d, t, os⟩ := by
  have FB := PySem.F.excBase_Exception
  repeat (first | with_reducible refine wpAny_loadPart_at hC ?_ | with_reducible refine wpAny_madeBy_exc hC ?_ | wp_step)
  refine codeAny_call_builtin_code (Code.quiet_builtin _ FB.quiet) (exc_check_new hcB hC ?_)
  refine exc_new_own hcB hcA hcN hC ?_ hrest
  show wpAny _ _ _ _ _ _
  have hC₁ := Heap.get?_push_of_some { cls := .ref C, data := .fields #[.ref h.objs.size, .none, .none, .none, .bool false, .none] }
    (Heap.get?_push_of_some { cls := .type "tuple", data := .seq rest.toArray } hC)
  have X₁ : K.In (excHeap h C rest) := X.keeps fun b o e => Heap.get?_push_of_some _ (Heap.get?_push_of_some _ e)
  have hget : (excHeap h C rest).get? (h.objs.size + 1) = some { cls := .ref C, data := .fields #[.ref h.objs.size, .none, .none, .none, .bool false, .none] } := by heap_get
  have hcC : (Value.ref C :: bm).contains (.ref C) = true := by simp
  unfold isInstance
  repeat (first | with_reducible refine wpAny_loadPart_at hget ?_ | (with_reducible refine wpAny_isSubtype_exc hC₁ ?_; rw [hcC]) | wp_step)
  show wpAny _ _ (typeLookup (.ref C) _) _ _ _
  refine Looks.at (looks_findIn X₁ hi) ?_
  refine wpAny_holding (wpAny_bind ?_)
  refine (bind_fn X₁ _ hfI).at ?_
  refine wpAny_bind (wpAny_mono hq (fun r s' hr => ?_) fun _ _ x => x)
  obtain ⟨rfl, hQ⟩ := hr
  wp_walk
  exact hQ
theorem exc_call {rest : List Value} {Q : Value → Shared → Prop} (hcB : (Value.ref C :: bm).contains (.type "Exception") = true) (hcA : (Value.ref C :: bm).contains (.type "AttributeError") = false) (hcN : (Value.ref C :: bm).contains (.type "NameError") = false)
    (X : K.In h) (hC : h.get? C = some (excClassObj nm q C N bs bm hdct sn sub ab col dd k0 k1 k2 k3 k5 "Exception.__new__")) (hi : findIn K (.ref C) "__init__" = some (some (.ref fI))) (hfI : typeIn K (.ref fI) = some (.type "function"))
    (hq : wpAny (model prog w) (A.under (.builtin "type.__call__" ⟨.ref C :: rest, []⟩)) (call (.ref fI) (.ref (h.objs.size + 1) :: rest)) (fun r s' => r = .none ∧ Q (.ref (h.objs.size + 1)) s') E ⟨excHeap h C rest, g, d, t, os⟩) (hrest : rest.length ≤ sizeLine) :
    wpAny (model prog w) A (call (.ref C) rest) Q E ⟨h, g, d, t, os⟩ := by
  have f1 := tc_lookup
  have f2 := tc_bind (.ref C)
  have hT : (⟨h, g, d, t, os⟩ : Shared).TypeIs (.ref C) "type" := ⟨_, hC, rfl⟩
  refine wpAny_call (codeAny_of_tree ?_)
  show wpAny _ _ (callAny (.ref C) _) _ _ _
  repeat (any_goals (first | assumption | with_reducible refine wpAny_loadPart_at hC ?_ | wp_step))
  refine ⟨rfl, ?_⟩
  exact codeAny_call_builtin_at (Code.quiet_builtin _ (by decide +kernel)) entry_typeCall (wpAny_check_type_call_sub hC (exc_type_call hcB hcA hcN X hC hi hfI hq hrest))
end
end
theorem off_L12 : True := by
  w_top off
  k_with_none
  (k_with "znz in" => first | with_reducible assumption | with_reducible exact List.mem_cons_self | ((with_reducible refine List.mem_cons_of_mem _ ?_); walk_at "nz in") | ((with_reducible refine List.mem_append_right _ ?_); walk_at "nz in") | ((with_reducible refine List.mem_append_left _ ?_); walk_at "nz in"))
  (k_with "znz hA" => exact rfl)
  (k_with "znz room" => (first | exact room1 (by with_reducible assumption) rfl | exact room2 (by with_reducible assumption) rfl | omega | ((try simp only [depth_under_make, depth_under_kw, depth_in1, depth_deeper]); (try dsimp only [nzA]); (try simp only [recursionLimit]); omega)))
  (k_with "znz units" => (first | exact room1 (by with_reducible assumption) rfl | exact room2 (by with_reducible assumption) rfl | omega | ((try simp only [units_in1, units_deeper, Around.mark_units]); (try dsimp only [nzA]); (try simp only [cLine]); omega)))
  (k_with "znz enter" => first | (refine' code_def ?q5k1 ?q5k2 ?q5k3 ?q5k4 ?q5k5 ?q5kA ?q5kF ?q5kK ?q5k6 ?q5k7 ?q5k8 ?q5k9 ?q5kB ?_ ?q5c2 ?q5c3 ?q5c4 ?q5c5; (case q5kA => walk_at "nz hA"); (case q5kF | q5kK => first | assumption | exact rfl); (case q5k1 | q5k2 | q5k3 | q5k4 | q5k5 => k_asm); (case q5k6 | q5k7 => k_is); (case q5k8 => walk_at "nz room"); (case q5k9 => exact BindsTo.of_eq rfl); (case q5c5 => decide); (case q5kB => exact locs rfl); (case q5c2 | q5c3 | q5c4 => exact rfl); k_whole; intro gpq5 Lpq5 hpq5 FGpq5 Fpq5 Npq5 Bpq5 Xpq5 Tpq5; (try dsimp only); (try k_lift Bpq5); (try k_fold); with_reducible refine anyE fun EE => ?_) | (refine' code_defC ?q5k1 ?q5k2 ?q5k3 ?q5k4 ?q5k5 ?q5kA ?q5kF ?q5kK ?q5k6 ?q5k7 ?q5k8 ?q5k9 ?q5kB ?q5kD ?_ ?q5c2 ?q5c3 ?q5c4; (case q5kA => walk_at "nz hA"); (case q5kF | q5kK => first | assumption | exact rfl); (case q5k1 | q5k2 | q5k3 | q5k4 | q5k5 => k_asm); (case q5k6 | q5k7 => k_is); (case q5k8 => walk_at "nz room"); (case q5k9 => exact BindsTo.of_eq rfl); (case q5kB => exact rfl); (case q5kD => decide +kernel); (case q5c2 | q5c3 | q5c4 => exact rfl); k_whole; intro gpq5 Lpq5 hpq5 tkpq5 cellspq5 FGpq5 Fpq5 Npq5 Ypq5 Bpq5 Xpq5 Tpq5 l1q5; (try k_lt l1q5); k_cells Ypq5; (try simp only [List.cons_append, List.nil_append] at Npq5); (try dsimp only); (try k_lift Bpq5); (try k_fold); with_reducible refine anyE fun EE => ?_))
  (k_with "zeval ListComp" => (k_here; refine Hold.go ?_))
  (k_with "zexec Assign cons ListComp" => (k_here; refine Hold.go ?_))
  (k_with "zcall ref" => (k_here; refine Hold.go ?_))
  (k_with "zexec For" => (k_here; refine Hold.go ?_))
  (k_with "znz fit" => (first | with_reducible assumption | exact fit_row (by with_reducible assumption) (by with_reducible assumption) | exact lt_len (by with_reducible assumption) (by with_reducible assumption) | omega | ((try simp only [List.length_map, List.length_cons, List.length_nil, List.size_toArray]); omega)))
  (k_with "zcall builtin:len" => (k_here; (with_reducible show wpAny _ _ (call (Value.builtin "len") [Value.ref _]) _ _ _); k_dflt (refine' nz_len ?q11N ?q11m ?q11f ?_; (case q11N => k_asm); (case q11m => k_mem); (case q11f => walk_at "nz fit"); k_whole)))
  (k_with "zsubscriptTail" => (k_here; (with_reducible show wpAny _ _ (subscriptTail _ _ (Value.ref _) (Value.int _ _)) _ _ _); k_dflt (refine' nz_item ?q12N ?q12m ?q12a ?q12b ?q12f ?_ ?q12k; (case q12N => k_asm); (case q12m => k_mem); (case q12a | q12b | q12f => walk_at "nz fit"); (case q12k => with_unfolding_all rfl); k_whole); intro vpq12 hvpq12))
  (k_with "zexecs cons" => (k_here; first | k_gentoks | (k_made; walk_at "execs cons") | (with_reducible refine cut_cons fun qk hqk => ?_)))
  (k_with "zQEnd" => (refine' behind_go ?q14h ?_; (case q14h => with_reducible assumption); dsimp only))
  (k_with "zeval Name" => (k_here; (with_reducible show wpAny _ _ (eval (Expr.Name _ _) (compEnvC _ _ _ _)) _ _ _); k_dflt (first | refine LCgL.ld_own (by k_asm) (by k_mem) (by assumption) (by assumption) ?_ | refine kcf_cell (by k_asm) (by rfl) (by k_mem) (by k_asm) ?_ | refine LCgL.ld_global (by k_asm) (by k_asm) (by k_asm) (by k_is) ?_ | refine LCgL.ld_built (by k_asm) (by k_asm) (by k_asm) (by k_is) (by boot_by_name) (by decide) ?_ | refine Hold.go ?_)))
  (k_with "zCompEnd" => (k_here; refine Hold.go ?_))
  (k_with "zCompSrc" => (k_here; refine Hold.go ?_))
  (k_with "znz sub" => first | with_reducible assumption | exact fun _ h => h | (intro p9q22 hp9q22; walk_at "nz in") | (intro p9q22 hp9q22; k_mem))
  (k_with "znz item" => (k_here; (with_reducible show wpAny _ _ (subscriptTail _ _ (Value.ref _) (Value.int _ _)) _ _ _); k_dflt (first | (refine' mat_item ?q23N ?q23m ?q23s ?q23a ?q23b ?q23f ?_ ?q23k; (case q23m => with_reducible assumption); (case q23N => k_asm); (case q23s => walk_at "nz sub"); (case q23a | q23b | q23f => walk_at "nz fit"); (case q23k => with_unfolding_all rfl); k_whole; intro bpq23 rowpq23 hrowpq23 hbrpq23; (try (have hlpq23 := Mat.getRow (by with_reducible assumption) hrowpq23))) | (refine' row_item ?q23N ?q23m ?q23s ?q23a ?q23b ?q23f ?_ ?q23k; (case q23m => with_reducible assumption); (case q23N => k_asm); (case q23s => walk_at "nz sub"); (case q23a | q23b | q23f => walk_at "nz fit"); (case q23k => with_unfolding_all rfl); k_whole; intro ipq23 tpq23 hipq23))))
  (k_with "zsubscriptTail" => walk_at "nz item")
  (k_with "zcall builtin:len" => (k_here; (with_reducible show wpAny _ _ (call (Value.builtin "len") [Value.ref _]) _ _ _); k_dflt (first | (refine' mat_len ?q25N ?q25m ?q25s ?q25f ?_; (case q25m => with_reducible assumption); (case q25N => k_asm); (case q25s => walk_at "nz sub"); (case q25f => walk_at "nz fit"); k_whole) | (refine' row_len ?q25N ?q25m ?q25s ?q25f ?_; (case q25m => with_reducible assumption); (case q25N => k_asm); (case q25s => walk_at "nz sub"); (case q25f => walk_at "nz fit"); k_whole))))
  (k_with "zcompareOp Eq ref ref" => (k_here; k_dflt (refine' mat_eq ?q26N ?q26a ?q26b ?q26c ?q26d ?q26u ?_; (case q26a | q26c => with_reducible assumption); (case q26N => k_asm); (case q26b | q26d => walk_at "nz sub"); (case q26u => walk_at "nz units"); k_whole)))
  (k_with "zcompareOp NotEq ref ref" => (k_here; k_dflt (refine' mat_ne ?q27N ?q27a ?q27b ?q27c ?q27d ?q27u ?_; (case q27a | q27c => with_reducible assumption); (case q27N => k_asm); (case q27b | q27d => walk_at "nz sub"); (case q27u => walk_at "nz units"); k_whole)))
  (k_with "zcall type:list" => (k_here; (with_reducible show wpAny _ _ (call (Value.type _) [Value.ref _]) _ _ _); k_dflt (refine' row_copy ?q29F ?q29N ?q29m ?q29s ?q29f ?_; (case q29m => with_reducible assumption); (case q29F | q29N => k_asm); (case q29s => walk_at "nz sub"); (case q29f => walk_at "nz fit"); k_whole); intro Dpq29 opq29 hpq29 Fpq29 Npq29 l1pq29 hDpq29; (have nzqpq29 := l1pq29); (k_lt l1pq29); (try k_sweep); (try dsimp only)))
  (k_with "zsubscriptTail Name Slice ref ref" => (k_here; (with_reducible show wpAny _ _ (subscriptTail _ (PySem.Expr.Slice none none (some _) _) (Value.ref _) (Value.ref _)) _ _ _); k_dflt (first | (refine' row_rev ?q30F ?q30N ?q30m ?q30s ?q30f ?q30k ?_ ?q30e ?q30t; (case q30m => with_reducible assumption); (case q30F | q30N => k_asm); (case q30s => walk_at "nz sub"); (case q30f => walk_at "nz fit"); (case q30k => exact IsPart.int _ _); (case q30e => with_unfolding_all rfl); (case q30t => kmk_pure)) | (refine' mat_rev ?q30F ?q30N ?q30m ?q30s ?q30f ?q30k ?_ ?q30e ?q30t; (case q30m => with_reducible assumption); (case q30F | q30N => k_asm); (case q30s => walk_at "nz sub"); (case q30f => walk_at "nz fit"); (case q30k => exact IsPart.int _ _); (case q30e => with_unfolding_all rfl); (case q30t => kmk_pure))); intro Dpq30 opq30 hpq30 Fpq30 Npq30 l1pq30 hDpq30; (have nzqpq30 := l1pq30); (k_lt l1pq30); (try k_sweep); (try dsimp only)))
  (k_with "zEltEnd" => (k_here; refine Hold.go ?_))
  (k_with "zTurnC" => (k_here; refine Hold.go ?_))
  (k_with "zpyIter ref" => (k_here; refine Hold.go ?_))
  (k_with "zTurnU" => (k_here; refine Hold.go ?_))
  (k_with "zexec For Name Call cons nil" => (k_here; k_dflt (refine wpAny_For ?_)))
  (k_with "zexec For" => (k_here; k_dflt (refine wpAny_For ?_)))
  (k_with "zcompareOp Eq ref ref" => (k_here; k_dflt (refine' mat_eqNil ?q40N ?q40a ?q40b ?q40c ?q40u ?_; (case q40a => with_reducible assumption); (case q40N => k_asm); (case q40b => walk_at "nz sub"); (case q40c => k_mem); (case q40u => walk_at "nz units"); k_whole)))
  (k_with "zcompareOp Eq ref ref" => (k_here; k_dflt (refine' mat_neNil ?q41N ?q41a ?q41b ?q41e ?q41c ?q41u ?_; (case q41a | q41e => with_reducible assumption); (case q41N => k_asm); (case q41b => walk_at "nz sub"); (case q41c => k_mem); (case q41u => walk_at "nz units"); k_whole)))
  (k_with "zcompareOp Eq ref ref" => (k_here; k_dflt (refine' mat_eq ?q42N ?q42a ?q42b ?q42c ?q42d ?q42u ?_; (case q42a | q42c => with_reducible assumption); (case q42N => k_asm); (case q42b | q42d => walk_at "nz sub"); (case q42u => walk_at "nz units"); k_whole)))
  (k_with "zexec Raise" => (k_here; refine Hold.go ?_))
  (k_with "znz dec" => ((try simp only [beq_iff_eq, bne_iff_ne, decide_eq_true_eq, ne_eq, Bool.not_eq_true', Bool.not_eq_true]); omega))
  (k_with "zite" => (k_here; k_dflt (first | refine ite_pos (by walk_at "nz dec") ?_ | refine ite_neg (by walk_at "nz dec") ?_)))
  (k_with "znz subs" => first | walk_at "nz item" | (k_here; k_dflt (first | ((with_reducible show wpAny _ _ (subscriptTail _ _ (Value.ref _) (Value.int 0 _)) _ _ _); refine' nz_pair0 ?q48N ?q48m ?_ ?q48k; (case q48N => k_asm); (case q48m => k_mem); (case q48k => with_unfolding_all rfl); k_whole) | ((with_reducible show wpAny _ _ (subscriptTail _ _ (Value.ref _) (Value.int 1 _)) _ _ _); refine' nz_pair1 ?q48N ?q48m ?_ ?q48k; (case q48N => k_asm); (case q48m => k_mem); (case q48k => with_unfolding_all rfl); k_whole))))
  (k_with "zsubscriptTail Name" => walk_at "nz subs")
  (k_with "zsubscriptTail Subscript" => walk_at "nz subs")
  (k_with "zSrcK" => (k_here; refine Hold.go ?_))
  (k_with "zgetAttr ref" => (k_here; k_dflt (first | ((with_reducible show wpAny _ _ (getAttr (Value.ref _) (Str.ofString "rows") true) _ _ _); refine' pl_rows ?q60F ?q60X ?q60N ?q60hp ?q60s ?_; (case q60hp => with_reducible assumption); (case q60F | q60X | q60N => k_asm); (case q60s => walk_at "nz sub"); k_whole) | ((with_reducible show wpAny _ _ (getAttr (Value.ref _) (Str.ofString "width") true) _ _ _); refine' pl_width ?q60F ?q60X ?q60N ?q60hp ?q60s ?_; (case q60hp => with_reducible assumption); (case q60F | q60X | q60N => k_asm); (case q60s => walk_at "nz sub"); k_whole; intro wtpq60) | ((with_reducible show wpAny _ _ (getAttr (Value.ref _) (Str.ofString "height") true) _ _ _); refine' pl_height ?q60F ?q60X ?q60N ?q60hp ?q60s ?_; (case q60hp => with_reducible assumption); (case q60F | q60X | q60N => k_asm); (case q60s => walk_at "nz sub"); k_whole; intro wtpq60)); (try dsimp only)))
  (k_with "zgetMethod type:Exception" => (k_here; k_dflt (refine' method_type ?q66F ?q66X ?q66t ?q66s ?q66e ?q66hh ?_; (case q66F | q66X => k_asm); (case q66t => first | rfl | kernel_rfl); (case q66s => decide +kernel); (case q66e => k_is); (case q66hh => rfl); k_whole); (try dsimp only)))
  (k_with "zcall builtin:Exception.__init__" => (k_here; k_dflt (refine' binit_w ?q67F ?q67N ?q67X ?q67hne ?_; (case q67F | q67N | q67X => k_asm); (case q67hne => with_reducible assumption); k_whole); intro tpq67 hpq67 Fpq67 Npq67; (try k_sweep); (try dsimp only)))
  (k_with "zsetAttr ref" => (k_here; (with_reducible show wpAny _ _ (setAttr (Value.ref _) (Str.ofString "message") _) _ _ _); k_dflt (refine' setmsg_w ?q68F ?q68N ?q68X ?q68hne ?_; (case q68F | q68N | q68X => k_asm); (case q68hne => with_reducible assumption); k_whole); intro dpq68 odpq68 hpq68 tkpq68 hopq68 hdepq68 Fpq68 Npq68; (try k_sweep); (try dsimp only)))
  trivial
section
variable {w : World} {mean : ExcName → Option Value} {mg mb : Str → Option Value} {A₀ : Around} {dp un : Nat} {gd : Option (List Code)} {env : Env} {outer : List Env} {base h₀ : Heap} {L : Addr} {m : Str → Option Value} {s : Shared} {R : Result → Shared → Prop} {news : List (Addr × Obj)}
  (B : Below A₀ base outer h₀) (F : Fr h₀ L s.heap m) (X : (Mine.hd.heap_39 w.params).In h₀) (T : TopH mean mg mb h₀)
  (hf : env.frame = some L) (hk : env.scope.kind = .function)
include B F X T hf hk

abbrev excRaw (t : Addr) : Obj := { cls := .ref 44, data := .fields #[.ref t, .none, .none, .none, .bool false, .none] }
omit B F X T hf hk in
theorem lk44 {Q : Prop} (k : ∀ cd c0 dd sl, (Mine.hd.heap_39 w.params).lookup 44 = some ⟨c0, dd, .cls cd, sl⟩ → clsIn (Mine.hd.heap_39 w.params) 44 = some cd → cd.hasDict = true → cd.mro = [Value.ref 44, Value.ref 31, Value.type "Exception", Value.type "BaseException", Value.type "object"] → Q) : Q := by
  have key : ∀ {cd c0 dd sl}, (Mine.hd.heap_39 w.params).lookup 44 = some ⟨c0, dd, .cls cd, sl⟩ → cd.hasDict = true → cd.mro = [Value.ref 44, Value.ref 31, Value.type "Exception", Value.type "BaseException", Value.type "object"] → Q := fun {cd c0 dd sl} h h1 h2 => k cd c0 dd sl h (by unfold clsIn; rw [h]) h1 h2
  refine' key ?h ?k1 ?k2
  case h => k_is
  case k1 => rfl
  case k2 => rfl
omit B F X T hf hk in
theorem binit_w {A : Around} {E : Value → Shared → Prop} {Q : Value → Shared → Prop} {e t0 : Addr} {msg : Str} {tm : Tok} (F : Fr h₀ L s.heap m) (N : News h₀ L s.heap ((e, excRaw t0) :: news)) (X : (Mine.hd.heap_39 w.params).In h₀) (hne : ∀ p ∈ news, @Ne Nat p.1 e)
    (h : ∀ t h', Fr h₀ L h' m → News h₀ L h' ((e, excRaw t) :: news) → Q .none { s with heap := h' }) :
    wpAny (model PySem.Challenge.pw_nz0241_01 w) A (call (.builtin "Exception.__init__") [.ref e, .str msg tm]) Q E s :=
  lk44 (w := w) fun cd c0 dd sl h1 h2 h3 h4 => wpAny_call (exc_binit h1 F N (X.keeps F.keep) hne (by unfold mroIn; rw [h2, Option.bind_some, h4]; rfl) (by rw [sizeLine_eq]; simp) h)
omit B F X T hf hk in
theorem setmsg_w {A : Around} {E : Value → Shared → Prop} {Q : Unit → Shared → Prop} {e t0 : Addr} {v : Value} (F : Fr h₀ L s.heap m) (N : News h₀ L s.heap ((e, excRaw t0) :: news)) (X : (Mine.hd.heap_39 w.params).In h₀) (hne : ∀ p ∈ news, @Ne Nat p.1 e)
    (h : ∀ d od h' tk', (∃ (hs : Int) (t : Tok) (n : Nat), od = dictOf [⟨hs, .str (Str.ofString "message") t, v⟩] n) → @Ne Nat d e → Fr h₀ L h' m → News h₀ L h' ((e, excObj t0 d) :: (d, od) :: news) → Q () { s with heap := h', toks := tk' }) :
    wpAny (model PySem.Challenge.pw_nz0241_01 w) A (setAttr (.ref e) (Str.ofString "message") v) Q E s :=
  lk44 (w := w) fun cd c0 dd sl h1 h2 h3 h4 => set_plain (X.keeps F.keep) (⟨(N _ (.head _)).1, rfl, rfl, trivial⟩ : W.InstAt s.heap e (excRaw t0) 44 none) (c44e w)
    (exc_set (s := { s with toks := s.toks + 1 }) F N (X.keeps F.keep) hne h2 h3 h4 (c44c w) fun d od h' tk' ho hde F' N' => h d od h' tk' ho hde F' N')

theorem excInit_t {e t0 : Addr} {msg : Str} {tm : Tok} (N : News h₀ L s.heap ((e, excRaw t0) :: news)) (hne : ∀ p ∈ news, @Ne Nat p.1 e) (hd : dp + 4 ≤ 400) (hu : un + 80 ≤ 1000)
    (ret : ∀ t d od h' tk', MsgDict msg od → @Ne Nat d e → Fr h₀ L h' m → News h₀ L h' ((e, excObj t d) :: (d, od) :: news) → R (.ok (.ret .none)) { s with heap := h', toks := tk' }) :
    codeAny (model PySem.Challenge.pw_nz0241_01 w) (nzA dp un gd env outer) (.call (.ref 28) ⟨[.ref e, .str msg tm], []⟩) R s := by
  k_dflt (refine' code_def ?k1 ?k2 ?k3 ?k4 ?k5 ?kA ?kF ?kK ?k6 ?k7 ?k8 ?k9 ?kB ?_ ?c2 ?c3 ?c4 ?c5; (case kA => exact rfl); (case kF => first | assumption | exact rfl); (case kK => first | assumption | exact rfl); (case k1 => k_asm); (case k2 => k_asm); (case k3 => k_asm); (case k4 => k_asm); (case k5 => k_asm); (case k6 => k_is); (case k7 => k_is); (case k8 => walk_at "nz room"); (case k9 => exact BindsTo.of_eq rfl); (case c5 => decide); (case kB => exact locs rfl); (case c2 => exact rfl); (case c3 => exact rfl); (case c4 => exact rfl); k_whole; intro g1 L1 h1 FG1 F1 N1 B1 X1 T1; (try dsimp only); (try k_lift B1); (try k_fold); with_reducible refine anyE fun EE => ?_)

  k_steps
  (rename News _ _ _ _ => N9)
  (rename Fr _ _ _ _ => F9)
  (rename @Ne Nat _ e => hde9)
  (rename Exists _ => ho9)
  obtain ⟨hs, t1, n1, rfl⟩ := ho9
  exact ret _ _ _ _ _ ⟨hs, t1, _, n1, rfl⟩ hde9 F9 N9

end
section
open PySem.Spec
section
variable {prog : Program} {w : World} {A : Around} {E : Value → Shared → Prop} {s : Shared} {K : Frag} {env : Env}
variable {nm q : Str} {N : Addr} {bs bm : List Value} {hdct : Bool} {sn : List Str} {sub : List Value} {ab : Bool} {col : Option Bool} {dd : Option Addr} {k0 k1 k2 k3 k5 : Option Value} {newId : String}
theorem raise_core {x : Sem Value} {Q : Flow → Shared → Prop} (hcB : (Value.ref 44 :: bm).contains (.type "BaseException") = true) (hh : A.handled = none)
    (h : wpAny (model prog w) A x (fun v s₁ => ∃ e t d, v = .ref e ∧ s₁.heap.get? 44 = some (excClassObj nm q 44 N bs bm hdct sn sub ab col dd k0 k1 k2 k3 k5 newId) ∧ s₁.heap.get? e = some (excObj t d) ∧ E (.ref e) s₁) E s) :
    wpAny (model prog w) A (raiseStmt env (some x) none) Q E s := by
  unfold raiseStmt
  refine wpAny_bind (wpAny_mono h (fun v s₁ h₁ => ?_) fun _ _ x => x)
  obtain ⟨e, t, d, rfl, hC, he, hE⟩ := h₁
  obtain ⟨hp, g, dr, tk, os⟩ := s₁
  repeat (first | with_reducible refine wpAny_loadPart_at he ?_ | with_reducible refine wpAny_loadPart_at hC ?_ | (with_reducible refine wpAny_isSubtype_exc hC ?_; rw [hcB]) | wp_step)
  exact wpAny_raiseNew_none hh hE
theorem raise_stmt {exc : Expr} {pos : Pos} {Q : Flow → Shared → Prop} (hcB : (Value.ref 44 :: bm).contains (.type "BaseException") = true) (hh : A.handled = none)
    (h : wpAny (model prog w) A (eval exc env) (fun v s₁ => ∃ e t d, v = .ref e ∧ s₁.heap.get? 44 = some (excClassObj nm q 44 N bs bm hdct sn sub ab col dd k0 k1 k2 k3 k5 newId) ∧ s₁.heap.get? e = some (excObj t d) ∧ E (.ref e) s₁) E s) :
    wpAny (model prog w) A (exec (.Raise (some exc) none pos) env) Q E s := by
  rw [arm_exec_Raise]
  first
    | exact wpAny_bind (wpAny_standAt (raise_core hcB hh (wpAny_bind (wpAny_mono h (fun v s₃ h₃ => wpAny_bind (wpAny_standAt (wpAny_pure h₃))) fun _ _ x => x))))
    | (simp only [evalOpt, Option.map]; exact wpAny_bind (wpAny_standAt (raise_core hcB hh (wpAny_bind (wpAny_mono h (fun v s₃ h₃ => wpAny_bind (wpAny_standAt (wpAny_pure h₃))) fun _ _ x => x)))))
end
end
theorem off_L13 : True := by
  w_top off
  k_with_none
  (k_with "znz in" => first | with_reducible assumption | with_reducible exact List.mem_cons_self | ((with_reducible refine List.mem_cons_of_mem _ ?_); walk_at "nz in") | ((with_reducible refine List.mem_append_right _ ?_); walk_at "nz in") | ((with_reducible refine List.mem_append_left _ ?_); walk_at "nz in"))
  (k_with "znz hA" => exact rfl)
  (k_with "znz room" => (first | exact room1 (by with_reducible assumption) rfl | exact room2 (by with_reducible assumption) rfl | omega | ((try simp only [depth_under_make, depth_under_kw, depth_in1, depth_deeper]); (try dsimp only [nzA]); (try simp only [recursionLimit]); omega)))
  (k_with "znz units" => (first | exact room1 (by with_reducible assumption) rfl | exact room2 (by with_reducible assumption) rfl | omega | ((try simp only [units_in1, units_deeper, Around.mark_units]); (try dsimp only [nzA]); (try simp only [cLine]); omega)))
  (k_with "znz enter" => first | (refine' code_def ?q5k1 ?q5k2 ?q5k3 ?q5k4 ?q5k5 ?q5kA ?q5kF ?q5kK ?q5k6 ?q5k7 ?q5k8 ?q5k9 ?q5kB ?_ ?q5c2 ?q5c3 ?q5c4 ?q5c5; (case q5kA => walk_at "nz hA"); (case q5kF | q5kK => first | assumption | exact rfl); (case q5k1 | q5k2 | q5k3 | q5k4 | q5k5 => k_asm); (case q5k6 | q5k7 => k_is); (case q5k8 => walk_at "nz room"); (case q5k9 => exact BindsTo.of_eq rfl); (case q5c5 => decide); (case q5kB => exact locs rfl); (case q5c2 | q5c3 | q5c4 => exact rfl); k_whole; intro gpq5 Lpq5 hpq5 FGpq5 Fpq5 Npq5 Bpq5 Xpq5 Tpq5; (try dsimp only); (try k_lift Bpq5); (try k_fold); with_reducible refine anyE fun EE => ?_) | (refine' code_defC ?q5k1 ?q5k2 ?q5k3 ?q5k4 ?q5k5 ?q5kA ?q5kF ?q5kK ?q5k6 ?q5k7 ?q5k8 ?q5k9 ?q5kB ?q5kD ?_ ?q5c2 ?q5c3 ?q5c4; (case q5kA => walk_at "nz hA"); (case q5kF | q5kK => first | assumption | exact rfl); (case q5k1 | q5k2 | q5k3 | q5k4 | q5k5 => k_asm); (case q5k6 | q5k7 => k_is); (case q5k8 => walk_at "nz room"); (case q5k9 => exact BindsTo.of_eq rfl); (case q5kB => exact rfl); (case q5kD => decide +kernel); (case q5c2 | q5c3 | q5c4 => exact rfl); k_whole; intro gpq5 Lpq5 hpq5 tkpq5 cellspq5 FGpq5 Fpq5 Npq5 Ypq5 Bpq5 Xpq5 Tpq5 l1q5; (try k_lt l1q5); k_cells Ypq5; (try simp only [List.cons_append, List.nil_append] at Npq5); (try dsimp only); (try k_lift Bpq5); (try k_fold); with_reducible refine anyE fun EE => ?_))
  (k_with "zeval ListComp" => (k_here; refine Hold.go ?_))
  (k_with "zexec Assign cons ListComp" => (k_here; refine Hold.go ?_))
  (k_with "zcall ref" => (k_here; refine Hold.go ?_))
  (k_with "zexec For" => (k_here; refine Hold.go ?_))
  (k_with "znz fit" => (first | with_reducible assumption | exact fit_row (by with_reducible assumption) (by with_reducible assumption) | exact lt_len (by with_reducible assumption) (by with_reducible assumption) | omega | ((try simp only [List.length_map, List.length_cons, List.length_nil, List.size_toArray]); omega)))
  (k_with "zcall builtin:len" => (k_here; (with_reducible show wpAny _ _ (call (Value.builtin "len") [Value.ref _]) _ _ _); k_dflt (refine' nz_len ?q11N ?q11m ?q11f ?_; (case q11N => k_asm); (case q11m => k_mem); (case q11f => walk_at "nz fit"); k_whole)))
  (k_with "zsubscriptTail" => (k_here; (with_reducible show wpAny _ _ (subscriptTail _ _ (Value.ref _) (Value.int _ _)) _ _ _); k_dflt (refine' nz_item ?q12N ?q12m ?q12a ?q12b ?q12f ?_ ?q12k; (case q12N => k_asm); (case q12m => k_mem); (case q12a | q12b | q12f => walk_at "nz fit"); (case q12k => with_unfolding_all rfl); k_whole); intro vpq12 hvpq12))
  (k_with "zexecs cons" => (k_here; first | k_gentoks | (k_made; walk_at "execs cons") | (with_reducible refine cut_cons fun qk hqk => ?_)))
  (k_with "zQEnd" => (refine' behind_go ?q14h ?_; (case q14h => with_reducible assumption); dsimp only))
  (k_with "zeval Name" => (k_here; (with_reducible show wpAny _ _ (eval (Expr.Name _ _) (compEnvC _ _ _ _)) _ _ _); k_dflt (first | refine LCgL.ld_own (by k_asm) (by k_mem) (by assumption) (by assumption) ?_ | refine kcf_cell (by k_asm) (by rfl) (by k_mem) (by k_asm) ?_ | refine LCgL.ld_global (by k_asm) (by k_asm) (by k_asm) (by k_is) ?_ | refine LCgL.ld_built (by k_asm) (by k_asm) (by k_asm) (by k_is) (by boot_by_name) (by decide) ?_ | refine Hold.go ?_)))
  (k_with "zCompEnd" => (k_here; refine Hold.go ?_))
  (k_with "zCompSrc" => (k_here; refine Hold.go ?_))
  (k_with "znz sub" => first | with_reducible assumption | exact fun _ h => h | (intro p9q22 hp9q22; walk_at "nz in") | (intro p9q22 hp9q22; k_mem))
  (k_with "znz item" => (k_here; (with_reducible show wpAny _ _ (subscriptTail _ _ (Value.ref _) (Value.int _ _)) _ _ _); k_dflt (first | (refine' mat_item ?q23N ?q23m ?q23s ?q23a ?q23b ?q23f ?_ ?q23k; (case q23m => with_reducible assumption); (case q23N => k_asm); (case q23s => walk_at "nz sub"); (case q23a | q23b | q23f => walk_at "nz fit"); (case q23k => with_unfolding_all rfl); k_whole; intro bpq23 rowpq23 hrowpq23 hbrpq23; (try (have hlpq23 := Mat.getRow (by with_reducible assumption) hrowpq23))) | (refine' row_item ?q23N ?q23m ?q23s ?q23a ?q23b ?q23f ?_ ?q23k; (case q23m => with_reducible assumption); (case q23N => k_asm); (case q23s => walk_at "nz sub"); (case q23a | q23b | q23f => walk_at "nz fit"); (case q23k => with_unfolding_all rfl); k_whole; intro ipq23 tpq23 hipq23))))
  (k_with "zsubscriptTail" => walk_at "nz item")
  (k_with "zcall builtin:len" => (k_here; (with_reducible show wpAny _ _ (call (Value.builtin "len") [Value.ref _]) _ _ _); k_dflt (first | (refine' mat_len ?q25N ?q25m ?q25s ?q25f ?_; (case q25m => with_reducible assumption); (case q25N => k_asm); (case q25s => walk_at "nz sub"); (case q25f => walk_at "nz fit"); k_whole) | (refine' row_len ?q25N ?q25m ?q25s ?q25f ?_; (case q25m => with_reducible assumption); (case q25N => k_asm); (case q25s => walk_at "nz sub"); (case q25f => walk_at "nz fit"); k_whole))))
  (k_with "zcompareOp Eq ref ref" => (k_here; k_dflt (refine' mat_eq ?q26N ?q26a ?q26b ?q26c ?q26d ?q26u ?_; (case q26a | q26c => with_reducible assumption); (case q26N => k_asm); (case q26b | q26d => walk_at "nz sub"); (case q26u => walk_at "nz units"); k_whole)))
  (k_with "zcompareOp NotEq ref ref" => (k_here; k_dflt (refine' mat_ne ?q27N ?q27a ?q27b ?q27c ?q27d ?q27u ?_; (case q27a | q27c => with_reducible assumption); (case q27N => k_asm); (case q27b | q27d => walk_at "nz sub"); (case q27u => walk_at "nz units"); k_whole)))
  (k_with "zcall type:list" => (k_here; (with_reducible show wpAny _ _ (call (Value.type _) [Value.ref _]) _ _ _); k_dflt (refine' row_copy ?q29F ?q29N ?q29m ?q29s ?q29f ?_; (case q29m => with_reducible assumption); (case q29F | q29N => k_asm); (case q29s => walk_at "nz sub"); (case q29f => walk_at "nz fit"); k_whole); intro Dpq29 opq29 hpq29 Fpq29 Npq29 l1pq29 hDpq29; (have nzqpq29 := l1pq29); (k_lt l1pq29); (try k_sweep); (try dsimp only)))
  (k_with "zsubscriptTail Name Slice ref ref" => (k_here; (with_reducible show wpAny _ _ (subscriptTail _ (PySem.Expr.Slice none none (some _) _) (Value.ref _) (Value.ref _)) _ _ _); k_dflt (first | (refine' row_rev ?q30F ?q30N ?q30m ?q30s ?q30f ?q30k ?_ ?q30e ?q30t; (case q30m => with_reducible assumption); (case q30F | q30N => k_asm); (case q30s => walk_at "nz sub"); (case q30f => walk_at "nz fit"); (case q30k => exact IsPart.int _ _); (case q30e => with_unfolding_all rfl); (case q30t => kmk_pure)) | (refine' mat_rev ?q30F ?q30N ?q30m ?q30s ?q30f ?q30k ?_ ?q30e ?q30t; (case q30m => with_reducible assumption); (case q30F | q30N => k_asm); (case q30s => walk_at "nz sub"); (case q30f => walk_at "nz fit"); (case q30k => exact IsPart.int _ _); (case q30e => with_unfolding_all rfl); (case q30t => kmk_pure))); intro Dpq30 opq30 hpq30 Fpq30 Npq30 l1pq30 hDpq30; (have nzqpq30 := l1pq30); (k_lt l1pq30); (try k_sweep); (try dsimp only)))
  (k_with "zEltEnd" => (k_here; refine Hold.go ?_))
  (k_with "zTurnC" => (k_here; refine Hold.go ?_))
  (k_with "zpyIter ref" => (k_here; refine Hold.go ?_))
  (k_with "zTurnU" => (k_here; refine Hold.go ?_))
  (k_with "zexec For Name Call cons nil" => (k_here; k_dflt (refine wpAny_For ?_)))
  (k_with "zexec For" => (k_here; k_dflt (refine wpAny_For ?_)))
  (k_with "zcompareOp Eq ref ref" => (k_here; k_dflt (refine' mat_eqNil ?q40N ?q40a ?q40b ?q40c ?q40u ?_; (case q40a => with_reducible assumption); (case q40N => k_asm); (case q40b => walk_at "nz sub"); (case q40c => k_mem); (case q40u => walk_at "nz units"); k_whole)))
  (k_with "zcompareOp Eq ref ref" => (k_here; k_dflt (refine' mat_neNil ?q41N ?q41a ?q41b ?q41e ?q41c ?q41u ?_; (case q41a | q41e => with_reducible assumption); (case q41N => k_asm); (case q41b => walk_at "nz sub"); (case q41c => k_mem); (case q41u => walk_at "nz units"); k_whole)))
  (k_with "zcompareOp Eq ref ref" => (k_here; k_dflt (refine' mat_eq ?q42N ?q42a ?q42b ?q42c ?q42d ?q42u ?_; (case q42a | q42c => with_reducible assumption); (case q42N => k_asm); (case q42b | q42d => walk_at "nz sub"); (case q42u => walk_at "nz units"); k_whole)))
  (k_with "zexec Raise" => (k_here; refine Hold.go ?_))
  (k_with "znz dec" => ((try simp only [beq_iff_eq, bne_iff_ne, decide_eq_true_eq, ne_eq, Bool.not_eq_true', Bool.not_eq_true]); omega))
  (k_with "zite" => (k_here; k_dflt (first | refine ite_pos (by walk_at "nz dec") ?_ | refine ite_neg (by walk_at "nz dec") ?_)))
  (k_with "znz subs" => first | walk_at "nz item" | (k_here; k_dflt (first | ((with_reducible show wpAny _ _ (subscriptTail _ _ (Value.ref _) (Value.int 0 _)) _ _ _); refine' nz_pair0 ?q48N ?q48m ?_ ?q48k; (case q48N => k_asm); (case q48m => k_mem); (case q48k => with_unfolding_all rfl); k_whole) | ((with_reducible show wpAny _ _ (subscriptTail _ _ (Value.ref _) (Value.int 1 _)) _ _ _); refine' nz_pair1 ?q48N ?q48m ?_ ?q48k; (case q48N => k_asm); (case q48m => k_mem); (case q48k => with_unfolding_all rfl); k_whole))))
  (k_with "zsubscriptTail Name" => walk_at "nz subs")
  (k_with "zsubscriptTail Subscript" => walk_at "nz subs")
  (k_with "zSrcK" => (k_here; refine Hold.go ?_))
  (k_with "zgetAttr ref" => (k_here; k_dflt (first | ((with_reducible show wpAny _ _ (getAttr (Value.ref _) (Str.ofString "rows") true) _ _ _); refine' pl_rows ?q60F ?q60X ?q60N ?q60hp ?q60s ?_; (case q60hp => with_reducible assumption); (case q60F | q60X | q60N => k_asm); (case q60s => walk_at "nz sub"); k_whole) | ((with_reducible show wpAny _ _ (getAttr (Value.ref _) (Str.ofString "width") true) _ _ _); refine' pl_width ?q60F ?q60X ?q60N ?q60hp ?q60s ?_; (case q60hp => with_reducible assumption); (case q60F | q60X | q60N => k_asm); (case q60s => walk_at "nz sub"); k_whole; intro wtpq60) | ((with_reducible show wpAny _ _ (getAttr (Value.ref _) (Str.ofString "height") true) _ _ _); refine' pl_height ?q60F ?q60X ?q60N ?q60hp ?q60s ?_; (case q60hp => with_reducible assumption); (case q60F | q60X | q60N => k_asm); (case q60s => walk_at "nz sub"); k_whole; intro wtpq60)); (try dsimp only)))
  trivial
section
variable {w : World} {mean : ExcName → Option Value} {mg mb : Str → Option Value} {A₀ : Around} {dp un : Nat} {gd : Option (List Code)} {env : Env} {outer : List Env} {base h₀ : Heap} {L : Addr} {m : Str → Option Value} {s : Shared} {R : Result → Shared → Prop} {news : List (Addr × Obj)}
  (B : Below A₀ base outer h₀) (F : Fr h₀ L s.heap m) (X : (Mine.hd.heap_39 w.params).In h₀) (T : TopH mean mg mb h₀)
  (hf : env.frame = some L) (hk : env.scope.kind = .function)
include B F X T hf hk

omit B F X T hf hk in
theorem under_tc {C : Addr} {vals : List Value} : ∃ k, k ≤ 8 ∧ (nzA dp un gd env outer).under (.builtin "type.__call__" ⟨.ref C :: vals, []⟩) = nzA (dp + 1) (un + k) gd env outer := by first | exact ⟨0, by decide, rfl⟩ | exact ⟨1, by decide, rfl⟩ | exact ⟨2, by decide, rfl⟩ | exact ⟨3, by decide, rfl⟩ | exact ⟨4, by decide, rfl⟩
omit B F X T hf hk in
theorem cls44o {h : Heap} {Q : Prop} (X' : (Mine.hd.heap_39 w.params).In h) (k : ∀ nm q N bs bm hdct sn sub ab col dd k0 k1 k2 k3 k5, h.get? 44 = some (excClassObj nm q 44 N bs bm hdct sn sub ab col dd k0 k1 k2 k3 k5 "Exception.__new__") → bm = [Value.ref 31, Value.type "Exception", Value.type "BaseException", Value.type "object"] → Q) : Q := by
  have key : ∀ {nm q N bs bm hdct sn sub ab col dd k0 k1 k2 k3 k5}, (Mine.hd.heap_39 w.params).lookup 44 = some (excClassObj nm q 44 N bs bm hdct sn sub ab col dd k0 k1 k2 k3 k5 "Exception.__new__") → bm = [Value.ref 31, Value.type "Exception", Value.type "BaseException", Value.type "object"] → Q := fun {nm q N bs bm hdct sn sub ab col dd k0 k1 k2 k3 k5} h1 h2 => k nm q N bs bm hdct sn sub ab col dd k0 k1 k2 k3 k5 (X' _ _ h1) h2
  refine' key ?h ?k1
  case h => k_is
  case k1 => rfl
theorem excMake_t {msg : Str} {tm : Tok} {Q : Value → Shared → Prop} {E : Value → Shared → Prop} (N : News h₀ L s.heap news) (hd : dp + 6 ≤ 400) (hu : un + 120 ≤ 1000)
    (ret : ∀ e t d od h' tk', MsgDict msg od → @Ne Nat d e → (∀ p ∈ news, @Ne Nat p.1 e) → Fr h₀ L h' m → News h₀ L h' ((e, excObj t d) :: (d, od) :: news) → Q (.ref e) { s with heap := h', toks := tk' }) :
    wpAny (model PySem.Challenge.pw_nz0241_01 w) (nzA dp un gd env outer) (call (.ref 44) [.str msg tm]) Q E s := by
  refine cls44o (X.keeps F.keep) fun nm q N' bs bm hdct sn sub ab col dd k0 k1 k2 k3 k5 hC hbm => ?_
  subst hbm
  obtain ⟨hp, g, dr, tk, os⟩ := s
  have hfI : typeIn (Mine.hd.heap_39 w.params) (.ref 28) = some (.type "function") := by k_is
  refine exc_call (by decide) (by decide) (by decide) (X.keeps F.keep) hC (c44d w) hfI ?_ (by rw [sizeLine_eq]; simp)
  obtain ⟨k, hk8, e⟩ := under_tc (dp := dp) (un := un) (gd := gd) (env := env) (outer := outer) (C := 44) (vals := [.str msg tm])
  rw [e]
  have F1 := (F.push { cls := .type "tuple", data := .seq [Value.str msg tm].toArray }).push { cls := .ref 44, data := .fields #[.ref hp.objs.size, .none, .none, .none, .bool false, .none] }
  have N1 := News.push (F.push { cls := .type "tuple", data := .seq [Value.str msg tm].toArray }) (News.push F N { cls := .type "tuple", data := .seq [Value.str msg tm].toArray }) { cls := .ref 44, data := .fields #[.ref hp.objs.size, .none, .none, .none, .bool false, .none] }
  rw [Heap.size_push] at N1
  have hne : ∀ p ∈ news, @Ne Nat p.1 (hp.objs.size + 1) := fun p hp => by
    have := Heap.lt_size (N p hp).1
    exact Nat.ne_of_lt (Nat.lt_succ_of_lt this)
  refine wpAny_call (excInit_t B F1 X T hf hk (newsSub (l' := (hp.objs.size + 1, excRaw hp.objs.size) :: news) N1 fun p hp => ?_) hne (by omega) (by omega) fun t d od h' tk' hmd hde F' N' => ?_)
  · rcases List.mem_cons.mp hp with rfl | hp
    · exact .head _
    · exact .tail _ (.tail _ hp)
  · exact ⟨rfl, ret _ _ _ _ _ _ hmd hde hne F' N'⟩

end
section
open PySem.Spec
/-- the walk of a raise's expression ends here -/
def RaiseEnd (o44 : Obj) (E : Value → Shared → Prop) (v : Value) (s₁ : Shared) : Prop := ∃ e t d, v = .ref e ∧ s₁.heap.get? 44 = some o44 ∧ s₁.heap.get? e = some (excObj t d) ∧ E (.ref e) s₁
theorem raise_go {w : World} {A : Around} {E : Value → Shared → Prop} {s : Shared} {env : Env} {h : Heap} {exc : Expr} {pos : Pos} {Q : Flow → Shared → Prop} (X' : (Mine.hd.heap_39 w.params).In h) (hh : A.handled = none)
    (k : ∀ o44, h.get? 44 = some o44 → wpAny (model PySem.Challenge.pw_nz0241_01 w) A (eval exc env) (RaiseEnd o44 E) E s) :
    wpAny (model PySem.Challenge.pw_nz0241_01 w) A (exec (.Raise (some exc) none pos) env) Q E s := by
  refine cls44o X' fun nm q N bs bm hdct sn sub ab col dd k0 k1 k2 k3 k5 hC hbm => ?_
  subst hbm
  exact raise_stmt (by decide) hh (k _ hC)
/-- what a def says that throws -/
def Throws (R : Result → Shared → Prop) (env : Env) (outer : List Env) (h₀ : Heap) (L : Addr) (m : Str → Option Value) (nl : List (Addr × Obj)) (s : Shared) : Prop :=
  ∀ B e t d od msg h' tk', MsgDict msg od → msg ≠ Str.ofString "" → Thrown B (env :: outer) (frs outer) e t d od h₀ L m nl h' → R (.error (.ref e)) { s with heap := h', toks := tk' }
theorem throw_end {M : Model} {A : Around} {s : Shared} {R : Result → Shared → Prop} {base g h₀ : Heap} {outer : List Env} {L Lc e t d : Addr} {m mc : Str → Option Value} {env envc : Env} {nl news : List (Addr × Obj)} {od o44 : Obj} {msg : Str} {h' : Heap} {tk' : Nat}
    (Bc : Below A base (env :: outer) g) (FG : Fr h₀ L g m) (hf : env.frame = some L) (hC : g.get? 44 = some o44) (F : Fr g Lc h' mc) (hfc : envc.frame = some Lc) (hkc : envc.scope.kind = .function) (N : News g Lc h' ((e, excObj t d) :: (d, od) :: nl))
    (hmd : MsgDict msg od) (hmn : msg ≠ Str.ofString "") (hde : @Ne Nat d e) (hn : ∀ p ∈ news, p ∈ nl) (hne : ∀ p ∈ nl, @Ne Nat p.1 e) (raised : Throws R env outer h₀ L m news s) :
    RaiseEnd o44 (fun x s' => wpAny M (A.deeper envc) (leaving envc x) (fun _ s'' => R (.error x) s'') (fun e' s'' => R (.error e') s'') s') (.ref e) { s with heap := h', toks := tk' } :=
  ⟨e, t, d, rfl, F.keep _ _ hC, (N _ (.head _)).1, leave_first (s' := { s with heap := h', toks := tk' }) Bc FG hf F hfc hkc N (.head _) (.tail _ (.head _)) hde (fun p hp => .tail _ (.tail _ (hn p hp))) (fun p hp => hne p (hn p hp)) fun B h₂ R' => raised _ _ _ _ _ _ _ _ hmd hmn R'⟩
end
theorem off_L14 : True := by
  w_top off
  k_with_none
  (k_with "znz in" => first | with_reducible assumption | with_reducible exact List.mem_cons_self | ((with_reducible refine List.mem_cons_of_mem _ ?_); walk_at "nz in") | ((with_reducible refine List.mem_append_right _ ?_); walk_at "nz in") | ((with_reducible refine List.mem_append_left _ ?_); walk_at "nz in"))
  (k_with "znz hA" => exact rfl)
  (k_with "znz room" => (first | exact room1 (by with_reducible assumption) rfl | exact room2 (by with_reducible assumption) rfl | omega | ((try simp only [depth_under_make, depth_under_kw, depth_in1, depth_deeper]); (try dsimp only [nzA]); (try simp only [recursionLimit]); omega)))
  (k_with "znz units" => (first | exact room1 (by with_reducible assumption) rfl | exact room2 (by with_reducible assumption) rfl | omega | ((try simp only [units_in1, units_deeper, Around.mark_units]); (try dsimp only [nzA]); (try simp only [cLine]); omega)))
  (k_with "znz enter" => first | (refine' code_def ?q5k1 ?q5k2 ?q5k3 ?q5k4 ?q5k5 ?q5kA ?q5kF ?q5kK ?q5k6 ?q5k7 ?q5k8 ?q5k9 ?q5kB ?_ ?q5c2 ?q5c3 ?q5c4 ?q5c5; (case q5kA => walk_at "nz hA"); (case q5kF | q5kK => first | assumption | exact rfl); (case q5k1 | q5k2 | q5k3 | q5k4 | q5k5 => k_asm); (case q5k6 | q5k7 => k_is); (case q5k8 => walk_at "nz room"); (case q5k9 => exact BindsTo.of_eq rfl); (case q5c5 => decide); (case q5kB => exact locs rfl); (case q5c2 | q5c3 | q5c4 => exact rfl); k_whole; intro gpq5 Lpq5 hpq5 FGpq5 Fpq5 Npq5 Bpq5 Xpq5 Tpq5; (try dsimp only); (try k_lift Bpq5); (try k_fold); with_reducible refine anyE fun EE => ?_) | (refine' code_defC ?q5k1 ?q5k2 ?q5k3 ?q5k4 ?q5k5 ?q5kA ?q5kF ?q5kK ?q5k6 ?q5k7 ?q5k8 ?q5k9 ?q5kB ?q5kD ?_ ?q5c2 ?q5c3 ?q5c4; (case q5kA => walk_at "nz hA"); (case q5kF | q5kK => first | assumption | exact rfl); (case q5k1 | q5k2 | q5k3 | q5k4 | q5k5 => k_asm); (case q5k6 | q5k7 => k_is); (case q5k8 => walk_at "nz room"); (case q5k9 => exact BindsTo.of_eq rfl); (case q5kB => exact rfl); (case q5kD => decide +kernel); (case q5c2 | q5c3 | q5c4 => exact rfl); k_whole; intro gpq5 Lpq5 hpq5 tkpq5 cellspq5 FGpq5 Fpq5 Npq5 Ypq5 Bpq5 Xpq5 Tpq5 l1q5; (try k_lt l1q5); k_cells Ypq5; (try simp only [List.cons_append, List.nil_append] at Npq5); (try dsimp only); (try k_lift Bpq5); (try k_fold); with_reducible refine anyE fun EE => ?_))
  (k_with "zeval ListComp" => (k_here; refine Hold.go ?_))
  (k_with "zexec Assign cons ListComp" => (k_here; refine Hold.go ?_))
  (k_with "zcall ref" => (k_here; refine Hold.go ?_))
  (k_with "zexec For" => (k_here; refine Hold.go ?_))
  (k_with "znz fit" => (first | with_reducible assumption | exact fit_row (by with_reducible assumption) (by with_reducible assumption) | exact lt_len (by with_reducible assumption) (by with_reducible assumption) | omega | ((try simp only [List.length_map, List.length_cons, List.length_nil, List.size_toArray]); omega)))
  (k_with "zcall builtin:len" => (k_here; (with_reducible show wpAny _ _ (call (Value.builtin "len") [Value.ref _]) _ _ _); k_dflt (refine' nz_len ?q11N ?q11m ?q11f ?_; (case q11N => k_asm); (case q11m => k_mem); (case q11f => walk_at "nz fit"); k_whole)))
  (k_with "zsubscriptTail" => (k_here; (with_reducible show wpAny _ _ (subscriptTail _ _ (Value.ref _) (Value.int _ _)) _ _ _); k_dflt (refine' nz_item ?q12N ?q12m ?q12a ?q12b ?q12f ?_ ?q12k; (case q12N => k_asm); (case q12m => k_mem); (case q12a | q12b | q12f => walk_at "nz fit"); (case q12k => with_unfolding_all rfl); k_whole); intro vpq12 hvpq12))
  (k_with "zexecs cons" => (k_here; first | k_gentoks | (k_made; walk_at "execs cons") | (with_reducible refine cut_cons fun qk hqk => ?_)))
  (k_with "zQEnd" => (refine' behind_go ?q14h ?_; (case q14h => with_reducible assumption); dsimp only))
  (k_with "zeval Name" => (k_here; (with_reducible show wpAny _ _ (eval (Expr.Name _ _) (compEnvC _ _ _ _)) _ _ _); k_dflt (first | refine LCgL.ld_own (by k_asm) (by k_mem) (by assumption) (by assumption) ?_ | refine kcf_cell (by k_asm) (by rfl) (by k_mem) (by k_asm) ?_ | refine LCgL.ld_global (by k_asm) (by k_asm) (by k_asm) (by k_is) ?_ | refine LCgL.ld_built (by k_asm) (by k_asm) (by k_asm) (by k_is) (by boot_by_name) (by decide) ?_ | refine Hold.go ?_)))
  (k_with "zCompEnd" => (k_here; refine Hold.go ?_))
  (k_with "zCompSrc" => (k_here; refine Hold.go ?_))
  (k_with "znz sub" => first | with_reducible assumption | exact fun _ h => h | (intro p9q22 hp9q22; walk_at "nz in") | (intro p9q22 hp9q22; k_mem))
  (k_with "znz item" => (k_here; (with_reducible show wpAny _ _ (subscriptTail _ _ (Value.ref _) (Value.int _ _)) _ _ _); k_dflt (first | (refine' mat_item ?q23N ?q23m ?q23s ?q23a ?q23b ?q23f ?_ ?q23k; (case q23m => with_reducible assumption); (case q23N => k_asm); (case q23s => walk_at "nz sub"); (case q23a | q23b | q23f => walk_at "nz fit"); (case q23k => with_unfolding_all rfl); k_whole; intro bpq23 rowpq23 hrowpq23 hbrpq23; (try (have hlpq23 := Mat.getRow (by with_reducible assumption) hrowpq23))) | (refine' row_item ?q23N ?q23m ?q23s ?q23a ?q23b ?q23f ?_ ?q23k; (case q23m => with_reducible assumption); (case q23N => k_asm); (case q23s => walk_at "nz sub"); (case q23a | q23b | q23f => walk_at "nz fit"); (case q23k => with_unfolding_all rfl); k_whole; intro ipq23 tpq23 hipq23))))
  (k_with "zsubscriptTail" => walk_at "nz item")
  (k_with "zcall builtin:len" => (k_here; (with_reducible show wpAny _ _ (call (Value.builtin "len") [Value.ref _]) _ _ _); k_dflt (first | (refine' mat_len ?q25N ?q25m ?q25s ?q25f ?_; (case q25m => with_reducible assumption); (case q25N => k_asm); (case q25s => walk_at "nz sub"); (case q25f => walk_at "nz fit"); k_whole) | (refine' row_len ?q25N ?q25m ?q25s ?q25f ?_; (case q25m => with_reducible assumption); (case q25N => k_asm); (case q25s => walk_at "nz sub"); (case q25f => walk_at "nz fit"); k_whole))))
  (k_with "zcompareOp Eq ref ref" => (k_here; k_dflt (refine' mat_eq ?q26N ?q26a ?q26b ?q26c ?q26d ?q26u ?_; (case q26a | q26c => with_reducible assumption); (case q26N => k_asm); (case q26b | q26d => walk_at "nz sub"); (case q26u => walk_at "nz units"); k_whole)))
  (k_with "zcompareOp NotEq ref ref" => (k_here; k_dflt (refine' mat_ne ?q27N ?q27a ?q27b ?q27c ?q27d ?q27u ?_; (case q27a | q27c => with_reducible assumption); (case q27N => k_asm); (case q27b | q27d => walk_at "nz sub"); (case q27u => walk_at "nz units"); k_whole)))
  (k_with "zcall type:list" => (k_here; (with_reducible show wpAny _ _ (call (Value.type _) [Value.ref _]) _ _ _); k_dflt (refine' row_copy ?q29F ?q29N ?q29m ?q29s ?q29f ?_; (case q29m => with_reducible assumption); (case q29F | q29N => k_asm); (case q29s => walk_at "nz sub"); (case q29f => walk_at "nz fit"); k_whole); intro Dpq29 opq29 hpq29 Fpq29 Npq29 l1pq29 hDpq29; (have nzqpq29 := l1pq29); (k_lt l1pq29); (try k_sweep); (try dsimp only)))
  (k_with "zsubscriptTail Name Slice ref ref" => (k_here; (with_reducible show wpAny _ _ (subscriptTail _ (PySem.Expr.Slice none none (some _) _) (Value.ref _) (Value.ref _)) _ _ _); k_dflt (first | (refine' row_rev ?q30F ?q30N ?q30m ?q30s ?q30f ?q30k ?_ ?q30e ?q30t; (case q30m => with_reducible assumption); (case q30F | q30N => k_asm); (case q30s => walk_at "nz sub"); (case q30f => walk_at "nz fit"); (case q30k => exact IsPart.int _ _); (case q30e => with_unfolding_all rfl); (case q30t => kmk_pure)) | (refine' mat_rev ?q30F ?q30N ?q30m ?q30s ?q30f ?q30k ?_ ?q30e ?q30t; (case q30m => with_reducible assumption); (case q30F | q30N => k_asm); (case q30s => walk_at "nz sub"); (case q30f => walk_at "nz fit"); (case q30k => exact IsPart.int _ _); (case q30e => with_unfolding_all rfl); (case q30t => kmk_pure))); intro Dpq30 opq30 hpq30 Fpq30 Npq30 l1pq30 hDpq30; (have nzqpq30 := l1pq30); (k_lt l1pq30); (try k_sweep); (try dsimp only)))
  (k_with "zEltEnd" => (k_here; refine Hold.go ?_))
  (k_with "zTurnC" => (k_here; refine Hold.go ?_))
  (k_with "zpyIter ref" => (k_here; refine Hold.go ?_))
  (k_with "zTurnU" => (k_here; refine Hold.go ?_))
  (k_with "zexec For Name Call cons nil" => (k_here; k_dflt (refine wpAny_For ?_)))
  (k_with "zexec For" => (k_here; k_dflt (refine wpAny_For ?_)))
  (k_with "zcompareOp Eq ref ref" => (k_here; k_dflt (refine' mat_eqNil ?q40N ?q40a ?q40b ?q40c ?q40u ?_; (case q40a => with_reducible assumption); (case q40N => k_asm); (case q40b => walk_at "nz sub"); (case q40c => k_mem); (case q40u => walk_at "nz units"); k_whole)))
  (k_with "zcompareOp Eq ref ref" => (k_here; k_dflt (refine' mat_neNil ?q41N ?q41a ?q41b ?q41e ?q41c ?q41u ?_; (case q41a | q41e => with_reducible assumption); (case q41N => k_asm); (case q41b => walk_at "nz sub"); (case q41c => k_mem); (case q41u => walk_at "nz units"); k_whole)))
  (k_with "zcompareOp Eq ref ref" => (k_here; k_dflt (refine' mat_eq ?q42N ?q42a ?q42b ?q42c ?q42d ?q42u ?_; (case q42a | q42c => with_reducible assumption); (case q42N => k_asm); (case q42b | q42d => walk_at "nz sub"); (case q42u => walk_at "nz units"); k_whole)))
  (k_with "zexec Raise" => (k_here; refine Hold.go ?_))
  (k_with "znz dec" => ((try simp only [beq_iff_eq, bne_iff_ne, decide_eq_true_eq, ne_eq, Bool.not_eq_true', Bool.not_eq_true]); omega))
  (k_with "zite" => (k_here; k_dflt (first | refine ite_pos (by walk_at "nz dec") ?_ | refine ite_neg (by walk_at "nz dec") ?_)))
  (k_with "znz subs" => first | walk_at "nz item" | (k_here; k_dflt (first | ((with_reducible show wpAny _ _ (subscriptTail _ _ (Value.ref _) (Value.int 0 _)) _ _ _); refine' nz_pair0 ?q48N ?q48m ?_ ?q48k; (case q48N => k_asm); (case q48m => k_mem); (case q48k => with_unfolding_all rfl); k_whole) | ((with_reducible show wpAny _ _ (subscriptTail _ _ (Value.ref _) (Value.int 1 _)) _ _ _); refine' nz_pair1 ?q48N ?q48m ?_ ?q48k; (case q48N => k_asm); (case q48m => k_mem); (case q48k => with_unfolding_all rfl); k_whole))))
  (k_with "zsubscriptTail Name" => walk_at "nz subs")
  (k_with "zsubscriptTail Subscript" => walk_at "nz subs")
  (k_with "zSrcK" => (k_here; refine Hold.go ?_))
  (k_with "zgetAttr ref" => (k_here; k_dflt (first | ((with_reducible show wpAny _ _ (getAttr (Value.ref _) (Str.ofString "rows") true) _ _ _); refine' pl_rows ?q60F ?q60X ?q60N ?q60hp ?q60s ?_; (case q60hp => with_reducible assumption); (case q60F | q60X | q60N => k_asm); (case q60s => walk_at "nz sub"); k_whole) | ((with_reducible show wpAny _ _ (getAttr (Value.ref _) (Str.ofString "width") true) _ _ _); refine' pl_width ?q60F ?q60X ?q60N ?q60hp ?q60s ?_; (case q60hp => with_reducible assumption); (case q60F | q60X | q60N => k_asm); (case q60s => walk_at "nz sub"); k_whole; intro wtpq60) | ((with_reducible show wpAny _ _ (getAttr (Value.ref _) (Str.ofString "height") true) _ _ _); refine' pl_height ?q60F ?q60X ?q60N ?q60hp ?q60s ?_; (case q60hp => with_reducible assumption); (case q60F | q60X | q60N => k_asm); (case q60s => walk_at "nz sub"); k_whole; intro wtpq60)); (try dsimp only)))
  (k_with "zexec Raise some none" => (k_here; refine Hold.go ?_))
  (k_with "zRaiseEnd" => (k_here; refine Hold.go ?_))
  (k_with "zcall ref" => (k_here; (with_reducible show wpAny _ _ (call (Value.ref 44) [Value.str _ _]) _ _ _); k_dflt (refine' excMake_t ?q71B ?q71F ?q71X ?q71T ?q71hf ?q71hk ?q71N ?q71hd ?q71hu ?_; (case q71B | q71F | q71X | q71T => k_asm); (case q71hf | q71hk => first | assumption | exact rfl); (case q71N => k_asm); (case q71hd => walk_at "nz room"); (case q71hu => walk_at "nz units"); k_whole); intro epq71 tpq71 dpq71 odpq71 hpq71 tkpq71 hmdpq71 hdepq71 hnepq71 Fpq71 Npq71; (try dsimp only)))
  trivial
section
variable {w : World} {mean : ExcName → Option Value} {mg mb : Str → Option Value} {A₀ : Around} {dp un : Nat} {gd : Option (List Code)} {env : Env} {outer : List Env} {base h₀ : Heap} {L : Addr} {m : Str → Option Value} {s : Shared} {R : Result → Shared → Prop} {news : List (Addr × Obj)}
  (B : Below A₀ base outer h₀) (F : Fr h₀ L s.heap m) (X : (Mine.hd.heap_39 w.params).In h₀) (T : TopH mean mg mb h₀)
  (hf : env.frame = some L) (hk : env.scope.kind = .function)
include B F X T hf hk

theorem planeOfBad_t {r : Addr} {M : List (List Int)} {n1 : List (Addr × Obj)} (N : News h₀ L s.heap news) (hM : DatIn n1 (.ref r) (matD M)) (hM0 : ∀ p ∈ n1, p ∈ news) (hl : M.length < 1000) (hr : ∀ row ∈ M, row.length < 1000)
    (hbad : ∀ r0 rest, M = r0 :: rest → (M.map fun row => decide ((row.length : Int) ≠ (r0.length : Int))).any id = true ∨ r0.length = 0) (hd : dp + 8 ≤ 400) (hu : un + 160 ≤ 1000)
    (raised : Throws R env outer h₀ L m news s) :
    codeAny (model PySem.Challenge.pw_nz0241_01 w) (nzA dp un gd env outer) (.call (.ref 93) ⟨[.ref r], []⟩) R s := by
  replace hM := hM.mono hM0
  k_dflt (refine' code_defC ?k1 ?k2 ?k3 ?k4 ?k5 ?kA ?kF ?kK ?k6 ?k7 ?k8 ?k9 ?kB ?kD ?_ ?c2 ?c3 ?c4; (case kA => exact rfl); (case kF => first | assumption | exact rfl); (case kK => first | assumption | exact rfl); (case k1 => k_asm); (case k2 => k_asm); (case k3 => k_asm); (case k4 => k_asm); (case k5 => k_asm); (case k6 => k_is); (case k7 => k_is); (case k8 => walk_at "nz room"); (case k9 => exact BindsTo.of_eq rfl); (case kB => exact rfl); (case kD => decide +kernel); (case c2 => exact rfl); (case c3 => exact rfl); (case c4 => exact rfl); k_whole; intro g1 L1 h1 tk1 cells1 FG1 F1 N1 Y1 B1 X1 T1 l1; (try k_lt l1); obtain ⟨oc1, hE, dc1⟩ := CellsAre.one Y1; subst hE; (try simp only [List.cons_append, List.nil_append] at N1); (try dsimp only); (try k_lift B1); (try k_fold))

  rcases M with _ | ⟨r0, rest⟩
  · k_steps

    unfold Hold
    refine raise_go X1 rfl fun o44 hC44 => ?_
    k_steps
    unfold Hold
    (rename News _ _ _ _ => N9)
    (rename Fr _ _ _ _ => F9)
    (rename MsgDict _ _ => hmd9)
    (rename @Ne Nat _ _ => hde9)
    (rename (∀ p : Addr × Obj, p ∈ _ → @Ne Nat p.1 _) => hne9)
    exact throw_end B1 FG1 hf hC44 F9 rfl rfl N9 hmd9 (by decide) hde9 (by intro p hp; walk_at "nz in") hne9 raised

  · have hne : r0 :: rest ≠ [] := by simp
    have hb := hbad r0 rest rfl
    have hr0 := hr r0 (.head _)
    have hlr : ∀ (k : Nat) row, (r0 :: rest)[k]? = some row → row.length < 1000 := fun k row e => hr _ (List.mem_of_getElem? e)
    have h00 : (r0 :: rest)[Int.toNat 0]? = some r0 := rfl
    have hlp : 0 < (r0 :: rest).length := by simp
    generalize r0 :: rest = M at *
    k_steps
    unfold Hold
    k_dflt (refine LCg.ListComp_U (F₀ := by k_asm) (by with_unfolding_all rfl) (by decide) (by rfl) (by decide) (by rfl) ?_)
    k_steps
    unfold Hold
    (rename News _ _ _ _ => N8)
    k_dflt (refine src_mat (fun row => Dat.bool (decide ((row.length : Int) ≠ (r0.length : Int)))) (by rfl) (by k_asm) N8 hM (by walk_at "nz sub") (by omega) ?_ ?_)

    · intro g2 i2 tl2 b2 row2 I2 oI2 C2 oC2 D2 oD2 m2 h2 tk3 E2 hrow2 hb2 hC2 hx2 F2 N2 off2 ne2 ha2
      have hl2 := hlr _ _ hrow2
      k_steps
      (rename (M[Int.toNat 0]? = some _) => h09)
      obtain rfl := Option.some.inj (h09.symm.trans h00)
      k_steps
      exact Hold.out (eltEnd_bool (by k_asm) (by k_asm) (by rw [Bool.eq_iff_iff]; simp))
    · intro g2 ys2 tl2 hyl2 hds2 hap2
      intro D2 h2 tk2 F2 N2 off2
      k_steps
      k_dflt (refine any_at (bs := M.map fun row => decide ((row.length : Int) ≠ (r0.length : Int))) (by k_asm) (by k_asm) (by rfl) (.head _) (by rw [List.map_map]; exact hds2) ?_)
      intro h3 tk3 F3 N3
      replace N3 := newsRest N3
      k_steps
      · unfold Hold
        refine raise_go X1 rfl fun o44 hC44 => ?_
        k_steps
        unfold Hold
        (rename News _ _ _ _ => N9)
        (rename Fr _ _ _ _ => F9)
        (rename MsgDict _ _ => hmd9)
        (rename @Ne Nat _ _ => hde9)
        (rename (∀ p : Addr × Obj, p ∈ _ → @Ne Nat p.1 _) => hne9)
        exact throw_end B1 FG1 hf hC44 F9 rfl rfl N9 hmd9 (by decide) hde9 (by intro p hp; walk_at "nz in") hne9 raised
      · (rename (M[Int.toNat 0]? = some _) => h09)
        obtain rfl := Option.some.inj (h09.symm.trans h00)
        (rename (List.any _ _ = _) => han)
        have hb2 := hb.resolve_left (fun q => by rw [q] at han; cases han)
        k_steps
        unfold Hold
        refine raise_go X1 rfl fun o44 hC44 => ?_
        k_steps
        unfold Hold
        (rename News _ _ _ _ => N9)
        (rename Fr _ _ _ _ => F9)
        (rename MsgDict _ _ => hmd9)
        (rename @Ne Nat _ _ => hde9)
        (rename (∀ p : Addr × Obj, p ∈ _ → @Ne Nat p.1 _) => hne9)
        exact throw_end B1 FG1 hf hC44 F9 rfl rfl N9 hmd9 (by decide) hde9 (by intro p hp; walk_at "nz in") hne9 raised

end
theorem off_L15 : True := by
  w_top off
  k_with_none
  (k_with "znz in" => first | with_reducible assumption | with_reducible exact List.mem_cons_self | ((with_reducible refine List.mem_cons_of_mem _ ?_); walk_at "nz in") | ((with_reducible refine List.mem_append_right _ ?_); walk_at "nz in") | ((with_reducible refine List.mem_append_left _ ?_); walk_at "nz in"))
  (k_with "znz hA" => exact rfl)
  (k_with "znz room" => (first | exact room1 (by with_reducible assumption) rfl | exact room2 (by with_reducible assumption) rfl | omega | ((try simp only [depth_under_make, depth_under_kw, depth_in1, depth_deeper]); (try dsimp only [nzA]); (try simp only [recursionLimit]); omega)))
  (k_with "znz units" => (first | exact room1 (by with_reducible assumption) rfl | exact room2 (by with_reducible assumption) rfl | omega | ((try simp only [units_in1, units_deeper, Around.mark_units]); (try dsimp only [nzA]); (try simp only [cLine]); omega)))
  (k_with "znz enter" => first | (refine' code_def ?q5k1 ?q5k2 ?q5k3 ?q5k4 ?q5k5 ?q5kA ?q5kF ?q5kK ?q5k6 ?q5k7 ?q5k8 ?q5k9 ?q5kB ?_ ?q5c2 ?q5c3 ?q5c4 ?q5c5; (case q5kA => walk_at "nz hA"); (case q5kF | q5kK => first | assumption | exact rfl); (case q5k1 | q5k2 | q5k3 | q5k4 | q5k5 => k_asm); (case q5k6 | q5k7 => k_is); (case q5k8 => walk_at "nz room"); (case q5k9 => exact BindsTo.of_eq rfl); (case q5c5 => decide); (case q5kB => exact locs rfl); (case q5c2 | q5c3 | q5c4 => exact rfl); k_whole; intro gpq5 Lpq5 hpq5 FGpq5 Fpq5 Npq5 Bpq5 Xpq5 Tpq5; (try dsimp only); (try k_lift Bpq5); (try k_fold); with_reducible refine anyE fun EE => ?_) | (refine' code_defC ?q5k1 ?q5k2 ?q5k3 ?q5k4 ?q5k5 ?q5kA ?q5kF ?q5kK ?q5k6 ?q5k7 ?q5k8 ?q5k9 ?q5kB ?q5kD ?_ ?q5c2 ?q5c3 ?q5c4; (case q5kA => walk_at "nz hA"); (case q5kF | q5kK => first | assumption | exact rfl); (case q5k1 | q5k2 | q5k3 | q5k4 | q5k5 => k_asm); (case q5k6 | q5k7 => k_is); (case q5k8 => walk_at "nz room"); (case q5k9 => exact BindsTo.of_eq rfl); (case q5kB => exact rfl); (case q5kD => decide +kernel); (case q5c2 | q5c3 | q5c4 => exact rfl); k_whole; intro gpq5 Lpq5 hpq5 tkpq5 cellspq5 FGpq5 Fpq5 Npq5 Ypq5 Bpq5 Xpq5 Tpq5 l1q5; (try k_lt l1q5); k_cells Ypq5; (try simp only [List.cons_append, List.nil_append] at Npq5); (try dsimp only); (try k_lift Bpq5); (try k_fold); with_reducible refine anyE fun EE => ?_))
  (k_with "zeval ListComp" => (k_here; refine Hold.go ?_))
  (k_with "zexec Assign cons ListComp" => (k_here; refine Hold.go ?_))
  (k_with "zcall ref" => (k_here; refine Hold.go ?_))
  (k_with "zexec For" => (k_here; refine Hold.go ?_))
  (k_with "znz fit" => (first | with_reducible assumption | exact fit_row (by with_reducible assumption) (by with_reducible assumption) | exact lt_len (by with_reducible assumption) (by with_reducible assumption) | omega | ((try simp only [List.length_map, List.length_cons, List.length_nil, List.size_toArray]); omega)))
  (k_with "zcall builtin:len" => (k_here; (with_reducible show wpAny _ _ (call (Value.builtin "len") [Value.ref _]) _ _ _); k_dflt (refine' nz_len ?q11N ?q11m ?q11f ?_; (case q11N => k_asm); (case q11m => k_mem); (case q11f => walk_at "nz fit"); k_whole)))
  (k_with "zsubscriptTail" => (k_here; (with_reducible show wpAny _ _ (subscriptTail _ _ (Value.ref _) (Value.int _ _)) _ _ _); k_dflt (refine' nz_item ?q12N ?q12m ?q12a ?q12b ?q12f ?_ ?q12k; (case q12N => k_asm); (case q12m => k_mem); (case q12a | q12b | q12f => walk_at "nz fit"); (case q12k => with_unfolding_all rfl); k_whole); intro vpq12 hvpq12))
  (k_with "zexecs cons" => (k_here; first | k_gentoks | (k_made; walk_at "execs cons") | (with_reducible refine cut_cons fun qk hqk => ?_)))
  (k_with "zQEnd" => (refine' behind_go ?q14h ?_; (case q14h => with_reducible assumption); dsimp only))
  (k_with "zeval Name" => (k_here; (with_reducible show wpAny _ _ (eval (Expr.Name _ _) (compEnvC _ _ _ _)) _ _ _); k_dflt (first | refine LCgL.ld_own (by k_asm) (by k_mem) (by assumption) (by assumption) ?_ | refine kcf_cell (by k_asm) (by rfl) (by k_mem) (by k_asm) ?_ | refine LCgL.ld_global (by k_asm) (by k_asm) (by k_asm) (by k_is) ?_ | refine LCgL.ld_built (by k_asm) (by k_asm) (by k_asm) (by k_is) (by boot_by_name) (by decide) ?_ | refine Hold.go ?_)))
  (k_with "zCompEnd" => (k_here; refine Hold.go ?_))
  (k_with "zCompSrc" => (k_here; refine Hold.go ?_))
  (k_with "znz sub" => first | with_reducible assumption | exact fun _ h => h | (intro p9q22 hp9q22; walk_at "nz in") | (intro p9q22 hp9q22; k_mem))
  (k_with "znz item" => (k_here; (with_reducible show wpAny _ _ (subscriptTail _ _ (Value.ref _) (Value.int _ _)) _ _ _); k_dflt (first | (refine' mat_item ?q23N ?q23m ?q23s ?q23a ?q23b ?q23f ?_ ?q23k; (case q23m => with_reducible assumption); (case q23N => k_asm); (case q23s => walk_at "nz sub"); (case q23a | q23b | q23f => walk_at "nz fit"); (case q23k => with_unfolding_all rfl); k_whole; intro bpq23 rowpq23 hrowpq23 hbrpq23; (try (have hlpq23 := Mat.getRow (by with_reducible assumption) hrowpq23))) | (refine' row_item ?q23N ?q23m ?q23s ?q23a ?q23b ?q23f ?_ ?q23k; (case q23m => with_reducible assumption); (case q23N => k_asm); (case q23s => walk_at "nz sub"); (case q23a | q23b | q23f => walk_at "nz fit"); (case q23k => with_unfolding_all rfl); k_whole; intro ipq23 tpq23 hipq23))))
  (k_with "zsubscriptTail" => walk_at "nz item")
  (k_with "zcall builtin:len" => (k_here; (with_reducible show wpAny _ _ (call (Value.builtin "len") [Value.ref _]) _ _ _); k_dflt (first | (refine' mat_len ?q25N ?q25m ?q25s ?q25f ?_; (case q25m => with_reducible assumption); (case q25N => k_asm); (case q25s => walk_at "nz sub"); (case q25f => walk_at "nz fit"); k_whole) | (refine' row_len ?q25N ?q25m ?q25s ?q25f ?_; (case q25m => with_reducible assumption); (case q25N => k_asm); (case q25s => walk_at "nz sub"); (case q25f => walk_at "nz fit"); k_whole))))
  (k_with "zcompareOp Eq ref ref" => (k_here; k_dflt (refine' mat_eq ?q26N ?q26a ?q26b ?q26c ?q26d ?q26u ?_; (case q26a | q26c => with_reducible assumption); (case q26N => k_asm); (case q26b | q26d => walk_at "nz sub"); (case q26u => walk_at "nz units"); k_whole)))
  (k_with "zcompareOp NotEq ref ref" => (k_here; k_dflt (refine' mat_ne ?q27N ?q27a ?q27b ?q27c ?q27d ?q27u ?_; (case q27a | q27c => with_reducible assumption); (case q27N => k_asm); (case q27b | q27d => walk_at "nz sub"); (case q27u => walk_at "nz units"); k_whole)))
  (k_with "zcall type:list" => (k_here; (with_reducible show wpAny _ _ (call (Value.type _) [Value.ref _]) _ _ _); k_dflt (refine' row_copy ?q29F ?q29N ?q29m ?q29s ?q29f ?_; (case q29m => with_reducible assumption); (case q29F | q29N => k_asm); (case q29s => walk_at "nz sub"); (case q29f => walk_at "nz fit"); k_whole); intro Dpq29 opq29 hpq29 Fpq29 Npq29 l1pq29 hDpq29; (have nzqpq29 := l1pq29); (k_lt l1pq29); (try k_sweep); (try dsimp only)))
  (k_with "zsubscriptTail Name Slice ref ref" => (k_here; (with_reducible show wpAny _ _ (subscriptTail _ (PySem.Expr.Slice none none (some _) _) (Value.ref _) (Value.ref _)) _ _ _); k_dflt (first | (refine' row_rev ?q30F ?q30N ?q30m ?q30s ?q30f ?q30k ?_ ?q30e ?q30t; (case q30m => with_reducible assumption); (case q30F | q30N => k_asm); (case q30s => walk_at "nz sub"); (case q30f => walk_at "nz fit"); (case q30k => exact IsPart.int _ _); (case q30e => with_unfolding_all rfl); (case q30t => kmk_pure)) | (refine' mat_rev ?q30F ?q30N ?q30m ?q30s ?q30f ?q30k ?_ ?q30e ?q30t; (case q30m => with_reducible assumption); (case q30F | q30N => k_asm); (case q30s => walk_at "nz sub"); (case q30f => walk_at "nz fit"); (case q30k => exact IsPart.int _ _); (case q30e => with_unfolding_all rfl); (case q30t => kmk_pure))); intro Dpq30 opq30 hpq30 Fpq30 Npq30 l1pq30 hDpq30; (have nzqpq30 := l1pq30); (k_lt l1pq30); (try k_sweep); (try dsimp only)))
  (k_with "zEltEnd" => (k_here; refine Hold.go ?_))
  (k_with "zTurnC" => (k_here; refine Hold.go ?_))
  (k_with "zpyIter ref" => (k_here; refine Hold.go ?_))
  (k_with "zTurnU" => (k_here; refine Hold.go ?_))
  (k_with "zexec For Name Call cons nil" => (k_here; k_dflt (refine wpAny_For ?_)))
  (k_with "zexec For" => (k_here; k_dflt (refine wpAny_For ?_)))
  (k_with "zcompareOp Eq ref ref" => (k_here; k_dflt (refine' mat_eqNil ?q40N ?q40a ?q40b ?q40c ?q40u ?_; (case q40a => with_reducible assumption); (case q40N => k_asm); (case q40b => walk_at "nz sub"); (case q40c => k_mem); (case q40u => walk_at "nz units"); k_whole)))
  (k_with "zcompareOp Eq ref ref" => (k_here; k_dflt (refine' mat_neNil ?q41N ?q41a ?q41b ?q41e ?q41c ?q41u ?_; (case q41a | q41e => with_reducible assumption); (case q41N => k_asm); (case q41b => walk_at "nz sub"); (case q41c => k_mem); (case q41u => walk_at "nz units"); k_whole)))
  (k_with "zcompareOp Eq ref ref" => (k_here; k_dflt (refine' mat_eq ?q42N ?q42a ?q42b ?q42c ?q42d ?q42u ?_; (case q42a | q42c => with_reducible assumption); (case q42N => k_asm); (case q42b | q42d => walk_at "nz sub"); (case q42u => walk_at "nz units"); k_whole)))
  (k_with "zexec Raise" => (k_here; refine Hold.go ?_))
  (k_with "znz dec" => ((try simp only [beq_iff_eq, bne_iff_ne, decide_eq_true_eq, ne_eq, Bool.not_eq_true', Bool.not_eq_true]); omega))
  (k_with "zite" => (k_here; k_dflt (first | refine ite_pos (by walk_at "nz dec") ?_ | refine ite_neg (by walk_at "nz dec") ?_)))
  (k_with "znz subs" => first | walk_at "nz item" | (k_here; k_dflt (first | ((with_reducible show wpAny _ _ (subscriptTail _ _ (Value.ref _) (Value.int 0 _)) _ _ _); refine' nz_pair0 ?q48N ?q48m ?_ ?q48k; (case q48N => k_asm); (case q48m => k_mem); (case q48k => with_unfolding_all rfl); k_whole) | ((with_reducible show wpAny _ _ (subscriptTail _ _ (Value.ref _) (Value.int 1 _)) _ _ _); refine' nz_pair1 ?q48N ?q48m ?_ ?q48k; (case q48N => k_asm); (case q48m => k_mem); (case q48k => with_unfolding_all rfl); k_whole))))
  (k_with "zsubscriptTail Name" => walk_at "nz subs")
  (k_with "zsubscriptTail Subscript" => walk_at "nz subs")
  (k_with "zSrcK" => (k_here; refine Hold.go ?_))
  (k_with "zgetAttr ref" => (k_here; k_dflt (first | ((with_reducible show wpAny _ _ (getAttr (Value.ref _) (Str.ofString "rows") true) _ _ _); refine' pl_rows ?q60F ?q60X ?q60N ?q60hp ?q60s ?_; (case q60hp => with_reducible assumption); (case q60F | q60X | q60N => k_asm); (case q60s => walk_at "nz sub"); k_whole) | ((with_reducible show wpAny _ _ (getAttr (Value.ref _) (Str.ofString "width") true) _ _ _); refine' pl_width ?q60F ?q60X ?q60N ?q60hp ?q60s ?_; (case q60hp => with_reducible assumption); (case q60F | q60X | q60N => k_asm); (case q60s => walk_at "nz sub"); k_whole; intro wtpq60) | ((with_reducible show wpAny _ _ (getAttr (Value.ref _) (Str.ofString "height") true) _ _ _); refine' pl_height ?q60F ?q60X ?q60N ?q60hp ?q60s ?_; (case q60hp => with_reducible assumption); (case q60F | q60X | q60N => k_asm); (case q60s => walk_at "nz sub"); k_whole; intro wtpq60)); (try dsimp only)))
  (k_with "zexec Raise some none" => (k_here; refine Hold.go ?_))
  (k_with "zRaiseEnd" => (k_here; refine Hold.go ?_))
  (k_with "zcall ref" => (k_here; (with_reducible show wpAny _ _ (call (Value.ref 44) [Value.str _ _]) _ _ _); k_dflt (refine' excMake_t ?q72B ?q72F ?q72X ?q72T ?q72hf ?q72hk ?q72N ?q72hd ?q72hu ?_; (case q72B | q72F | q72X | q72T => k_asm); (case q72hf | q72hk => first | assumption | exact rfl); (case q72N => k_asm); (case q72hd => walk_at "nz room"); (case q72hu => walk_at "nz units"); k_whole); intro epq72 tpq72 dpq72 odpq72 hpq72 tkpq72 hmdpq72 hdepq72 hnepq72 Fpq72 Npq72; (try dsimp only)))
  (k_with "zexecs cons" => (k_here; exfalso; with_reducible contradiction))
  trivial
section
variable {w : World} {mean : ExcName → Option Value} {mg mb : Str → Option Value} {A₀ : Around} {dp un : Nat} {gd : Option (List Code)} {env : Env} {outer : List Env} {base h₀ : Heap} {L : Addr} {m : Str → Option Value} {s : Shared} {R : Result → Shared → Prop} {news : List (Addr × Obj)}
  (B : Below A₀ base outer h₀) (F : Fr h₀ L s.heap m) (X : (Mine.hd.heap_39 w.params).In h₀) (T : TopH mean mg mb h₀)
  (hf : env.frame = some L) (hk : env.scope.kind = .function)
include B F X T hf hk

theorem turnedTwist_t {x r : Addr} {M : List (List Int)} {W H : Int} {wd : Str} {tw : Tok} {n0 n1 : List (Addr × Obj)} (N : News h₀ L s.heap news) (hp : PlIn n0 x W H r) (hp0 : ∀ p ∈ n0, p ∈ news) (hM : DatIn n1 (.ref r) (matD M)) (hM0 : ∀ p ∈ n1, p ∈ news) (hMat : Mat M W H)
    (h1 : ¬ pTr wd = true) (h2 : ¬ pMi wd = true) (h3 : ¬ pFl wd = true) (h4 : ¬ pSt wd = true) (hd : dp + 8 ≤ 400) (hu : un + 160 ≤ 1000)
    (raised : Throws R env outer h₀ L m news s) :
    codeAny (model PySem.Challenge.pw_nz0241_01 w) (nzA dp un gd env outer) (.call (.ref 117) ⟨[.ref x, .str wd tw], []⟩) R s := by
  replace hM := hM.mono hM0
  replace hp := hp.mono hp0
  obtain ⟨q1, q2, q3, q4, q5, q6⟩ := id hMat
  have hne := hMat.ne
  have c1 : ¬ ([Str.ofString "left", Str.ofString "right", Str.ofString "swap", Str.ofString "cross"].any fun x => x == wd) = true := h1
  have c2 : ¬ ([Str.ofString "back", Str.ofString "mirror", Str.ofString "right", Str.ofString "cross"].any fun x => x == wd) = true := h2
  have c3 : ¬ ([Str.ofString "back", Str.ofString "flip", Str.ofString "left", Str.ofString "cross"].any fun x => x == wd) = true := h3
  have c4 : ¬ ([Str.ofString "stay", Str.ofString "mirror", Str.ofString "right", Str.ofString "swap"].any fun x => x == wd) = true := h4
  have c5 : ([Str.ofString "stay", Str.ofString "mirror", Str.ofString "right", Str.ofString "swap"].any fun x => x == wd) = false := by simpa using c4
  clear h1 h2 h3 h4
  k_dflt (refine' code_defC ?k1 ?k2 ?k3 ?k4 ?k5 ?kA ?kF ?kK ?k6 ?k7 ?k8 ?k9 ?kB ?kD ?_ ?c2 ?c3 ?c4; (case kA => exact rfl); (case kF => first | assumption | exact rfl); (case kK => first | assumption | exact rfl); (case k1 => k_asm); (case k2 => k_asm); (case k3 => k_asm); (case k4 => k_asm); (case k5 => k_asm); (case k6 => k_is); (case k7 => k_is); (case k8 => walk_at "nz room"); (case k9 => exact BindsTo.of_eq rfl); (case kB => exact rfl); (case kD => decide +kernel); (case c2 => exact rfl); (case c3 => exact rfl); (case c4 => exact rfl); k_whole; intro g1 L1 h1 tk1 cells1 FG1 F1 N1 Y1 B1 X1 T1 l1; (try k_lt l1); obtain ⟨oc1, hE, dc1⟩ := CellsAre.one Y1; subst hE; (try simp only [List.cons_append, List.nil_append] at N1); (try dsimp only); (try k_lift B1); (try k_fold))

  k_steps
  unfold Hold
  k_dflt (refine wpAny_Assign_Name ?_)
  k_steps
  unfold Hold
  k_dflt (refine LCg.ListComp_U (F₀ := by k_asm) (by with_unfolding_all rfl) (by decide) (by rfl) (by decide) (by rfl) ?_)
  k_steps
  unfold Hold
  (rename News _ _ _ _ => N8)
  k_dflt (refine src_mat rowD (by rfl) (by k_asm) N8 hM (by walk_at "nz sub") (by omega) ?_ ?_)

  · intro g2 i2 tl2 b2 row2 I2 oI2 C2 oC2 D2 oD2 m2 h2 tk3 E2 hrow2 hb2 hC2 hx2 F2 N2 off2 ne2 ha2
    have hl2 := hMat.getRow hrow2
    k_steps
    exact Hold.out (eltEnd_one (by k_asm) (by k_asm) (by assumption) (by assumption))
  · intro g2 ys2 tl2 hyl2 hds2 hap2
    intro D2 h2 tk2 F2 N2 off2
    obtain ⟨hD2, hA2⟩ := comp_fin hds2 hap2 off2
    have hnb : ∀ p ∈ news, @Ne Nat p.1 (L1 + 1) := off_of l1 (Nat.le_succ _)
    obtain ⟨tA, hDA, NA, cA, hAA⟩ := to_head (mid := []) hD2 N2 hA2 hnb
    clear N2 hD2 hA2 hds2 hap2 off2
    k_steps
    unfold Hold
    refine raise_go X1 rfl fun o44 hC44 => ?_
    k_steps
    unfold Hold
    (rename News _ _ _ _ => N9)
    (rename Fr _ _ _ _ => F9)
    (rename MsgDict _ _ => hmd9)
    (rename @Ne Nat _ _ => hde9)
    (rename (∀ p : Addr × Obj, p ∈ _ → @Ne Nat p.1 _) => hne9)
    exact throw_end B1 FG1 hf hC44 F9 rfl rfl N9 hmd9 (by decide) hde9 (by intro p hp; walk_at "nz in") hne9 raised

end
section
open PySem.Spec
/-- a zip over two lists, just made -/
def ZipSt (h₀ : Heap) (L : Addr) (news : List (Addr × Obj)) (h : Heap) (z l1 l2 : Addr) (vs1 vs2 : List Value) : Prop :=
  ∃ TI TO i1 i2, ZipApart z TI TO i1 i2 l1 l2 ∧ (IsZip h z TI TO .none ∧ IsPair h TI (.ref i1) (.ref i2) ∧ (∃ a b, IsPair h TO a b) ∧ h.IsListIter i1 l1 0 ∧ h.IsListIter i2 l2 0 ∧ h.IsList l1 vs1.toArray ∧ h.IsList l2 vs2.toArray) ∧
    L ∉ [z, TI, TO, i1, i2, l1, l2] ∧ (∀ b ∈ [z, TO, i1, i2], h₀.get? b = none) ∧ ∀ p ∈ news, p.1 ∉ [z, TO, i1, i2]
/-- the end of a turn of a zip loop -/
def TurnZ (h₀ : Heap) (L : Addr) (led : List (Addr × Obj)) (J : (Str → Option Value) → Prop) (s₁ : Shared) (f : Flow) (s₂ : Shared) : Prop :=
  f = .next ∧ ∃ h' tk m', s₂ = { s₁ with heap := h', toks := tk } ∧ Fr h₀ L h' m' ∧ News h₀ L h' led ∧ J m'
section
variable {prog : Program} {w : World} {A : Around} {E : Value → Shared → Prop} {s : Shared} {h₀ : Heap} {L z l1 l2 : Addr} {m : Str → Option Value} {env : Env} {news : List (Addr × Obj)} {vs1 vs2 : List Value} {n1 n2 : Nat}
theorem zip_make {Q : Value → Shared → Prop} (F : Fr h₀ L s.heap m) (N : News h₀ L s.heap news) (m1 : (l1, listOf vs1.toArray n1) ∈ news) (m2 : (l2, listOf vs2.toArray n2) ∈ news)
    (h : ∀ z h', ZipSt h₀ L news h' z l1 l2 vs1 vs2 → Fr h₀ L h' m → News h₀ L h' news → Q (.ref z) { s with heap := h' }) :
    wpAny (model prog w) A (call (.type "zip") [.ref l1, .ref l2]) Q E s := by
  have k1 : s.heap.IsList l1 vs1.toArray := ⟨_, (N _ m1).1, rfl, n1, rfl⟩
  have k2 : s.heap.IsList l2 vs2.toArray := ⟨_, (N _ m2).1, rfl, n2, rfl⟩
  have a1 : @LT.lt Nat _ l1 s.heap.objs.size := Heap.lt_size (N _ m1).1
  have a2 : @LT.lt Nat _ l2 s.heap.objs.size := Heap.lt_size (N _ m2).1
  have aL : @LT.lt Nat _ L s.heap.objs.size := F.ns.lt
  have nL1 : @Ne Nat l1 L := (N _ m1).2.1
  have nL2 : @Ne Nat l2 L := (N _ m2).2.1
  have an : ∀ p ∈ news, @LT.lt Nat _ p.1 s.heap.objs.size := fun p hp => Heap.lt_size (N p hp).1
  have fr : ∀ b : Nat, s.heap.objs.size ≤ b → h₀.get? b = none := fun b hb => Heap.get?_none_of_le (Nat.le_trans F.above (Nat.le_of_lt (Nat.lt_of_lt_of_le aL hb)))
  refine call_zip_2 k1 k2 fun h' b1 b2 b3 b4 b5 b6 b7 => ?_
  refine h _ h' ?_ (F.keeps b7) (fun p hp => ⟨b7 _ _ (N p hp).1, (N p hp).2⟩)
  generalize (s.heap.objs.size : Nat) = n at *
  refine ⟨_, _, _, _, ⟨?_, ?_, ?_, ?_, ?_, ?_, ?_, ?_, ?_, ?_, ?_, ?_, ?_, ?_, ?_, ?_, ?_, ?_⟩, ⟨b1, b2, ⟨_, _, b3⟩, b4, b5, (let ⟨o, e, r⟩ := k1; ⟨o, b7 _ _ e, r⟩), (let ⟨o, e, r⟩ := k2; ⟨o, b7 _ _ e, r⟩)⟩, ?_, ?_, ?_⟩
  all_goals first | (show @Ne Nat _ _; omega) | skip
  · intro hm
    simp only [List.mem_cons, List.not_mem_nil, or_false] at hm
    rcases hm with q | q | q | q | q | q | q <;> (have q : @Eq Nat _ _ := q) <;> omega
  · intro b hb
    simp only [List.mem_cons, List.not_mem_nil, or_false] at hb
    rcases hb with rfl | rfl | rfl | rfl <;> exact fr _ (by omega)
  · intro p hp hm
    have := an p hp
    simp only [List.mem_cons, List.not_mem_nil, or_false] at hm
    rcases hm with q | q | q | q <;> (have q : @Eq Nat _ _ := q) <;> omega
theorem for_zip {xi xc : Str} {body : List Stmt} {Q : Flow → Shared → Prop} (J : Nat → (Str → Option Value) → Prop) (hh : A.handled = none) (Z : ZipSt h₀ L news s.heap z l1 l2 vs1 vs2)
    (hL : env.locals = L) (F : Fr h₀ L s.heap m) (N : News h₀ L s.heap news) (h0 : J 0 m)
    (step : ∀ i v0 v1 m₁ g own h tk, vs1[i]? = some v0 → vs2[i]? = some v1 → J i m₁ → Fr h₀ L h (fun y => if y = xc then some v1 else if y = xi then some v0 else m₁ y) → News h₀ L h (own ++ news) →
      wpAny (model prog w) A (execs body env) (TurnZ h₀ L (own ++ news) (J (i + 1)) { { s with heap := g } with heap := h, toks := tk }) E { { s with heap := g } with heap := h, toks := tk })
    (hR : ∀ h' tk m', Fr h₀ L h' m' → News h₀ L h' news → J (min vs1.length vs2.length) m' → Q .next { s with heap := h', toks := tk }) :
    wpAny (model prog w) A (pyIter (.ref z)) (fun it s₂ => PairAt3 prog w A h₀ env xi xc body Q E it s₂) E s := by
  obtain ⟨TI, TO, i1, i2, D, st, hLf, hwr, hnw⟩ := Z
  subst hL
  have W := WalksT.zip2 (prog := prog) (w := w) hh z TI TO i1 i2 l1 l2 D vs1.toArray vs2.toArray
  refine W.self 0 _ _ _ st ?_
  refine ⟨z, _, _, _, _, _, _, (fun i v0 v1 => vs1[i]? = some v0 ∧ vs2[i]? = some v1), m, news, (fun i m' nw => nw = news ∧ J i m'), rfl, W, ?_, hLf, hwr, hnw, st, F, N, ⟨rfl, h0⟩, ?_, ?_⟩
  · rintro i vals ⟨x, y, hx, hy, rfl⟩
    exact ⟨x, y, rfl, by simpa using hx, by simpa using hy⟩
  · rintro i v0 v1 m₁ news₁ s₁ own ⟨h, tk, rfl⟩ _ ⟨h1, h2⟩ ⟨rfl, hJ⟩ _ _ F₁ N₁
    refine wpAny_mono (step i v0 v1 m₁ s.heap own h tk h1 h2 hJ F₁ N₁) (fun f s₂ q => ?_) fun _ _ e => e
    obtain ⟨rfl, h', tk', m', rfl, F', N', hJ'⟩ := q
    exact ⟨rfl, h', tk', m', _, rfl, F', N', rfl, rfl, hJ'⟩
  · rintro h' tk m' nw F' N' _ ⟨rfl, hJ⟩
    exact hR h' tk m' F' N' (by simpa using hJ)
end
end
theorem off_L16 : True := by
  w_top off
  k_with_none
  (k_with "znz in" => first | with_reducible assumption | with_reducible exact List.mem_cons_self | ((with_reducible refine List.mem_cons_of_mem _ ?_); walk_at "nz in") | ((with_reducible refine List.mem_append_right _ ?_); walk_at "nz in") | ((with_reducible refine List.mem_append_left _ ?_); walk_at "nz in"))
  (k_with "znz hA" => exact rfl)
  (k_with "znz room" => (first | exact room1 (by with_reducible assumption) rfl | exact room2 (by with_reducible assumption) rfl | omega | ((try simp only [depth_under_make, depth_under_kw, depth_in1, depth_deeper]); (try dsimp only [nzA]); (try simp only [recursionLimit]); omega)))
  (k_with "znz units" => (first | exact room1 (by with_reducible assumption) rfl | exact room2 (by with_reducible assumption) rfl | omega | ((try simp only [units_in1, units_deeper, Around.mark_units]); (try dsimp only [nzA]); (try simp only [cLine]); omega)))
  (k_with "znz enter" => first | (refine' code_def ?q5k1 ?q5k2 ?q5k3 ?q5k4 ?q5k5 ?q5kA ?q5kF ?q5kK ?q5k6 ?q5k7 ?q5k8 ?q5k9 ?q5kB ?_ ?q5c2 ?q5c3 ?q5c4 ?q5c5; (case q5kA => walk_at "nz hA"); (case q5kF | q5kK => first | assumption | exact rfl); (case q5k1 | q5k2 | q5k3 | q5k4 | q5k5 => k_asm); (case q5k6 | q5k7 => k_is); (case q5k8 => walk_at "nz room"); (case q5k9 => exact BindsTo.of_eq rfl); (case q5c5 => decide); (case q5kB => exact locs rfl); (case q5c2 | q5c3 | q5c4 => exact rfl); k_whole; intro gpq5 Lpq5 hpq5 FGpq5 Fpq5 Npq5 Bpq5 Xpq5 Tpq5; (try dsimp only); (try k_lift Bpq5); (try k_fold); with_reducible refine anyE fun EE => ?_) | (refine' code_defC ?q5k1 ?q5k2 ?q5k3 ?q5k4 ?q5k5 ?q5kA ?q5kF ?q5kK ?q5k6 ?q5k7 ?q5k8 ?q5k9 ?q5kB ?q5kD ?_ ?q5c2 ?q5c3 ?q5c4; (case q5kA => walk_at "nz hA"); (case q5kF | q5kK => first | assumption | exact rfl); (case q5k1 | q5k2 | q5k3 | q5k4 | q5k5 => k_asm); (case q5k6 | q5k7 => k_is); (case q5k8 => walk_at "nz room"); (case q5k9 => exact BindsTo.of_eq rfl); (case q5kB => exact rfl); (case q5kD => decide +kernel); (case q5c2 | q5c3 | q5c4 => exact rfl); k_whole; intro gpq5 Lpq5 hpq5 tkpq5 cellspq5 FGpq5 Fpq5 Npq5 Ypq5 Bpq5 Xpq5 Tpq5 l1q5; (try k_lt l1q5); k_cells Ypq5; (try simp only [List.cons_append, List.nil_append] at Npq5); (try dsimp only); (try k_lift Bpq5); (try k_fold); with_reducible refine anyE fun EE => ?_))
  (k_with "zeval ListComp" => (k_here; refine Hold.go ?_))
  (k_with "zexec Assign cons ListComp" => (k_here; refine Hold.go ?_))
  (k_with "zcall ref" => (k_here; refine Hold.go ?_))
  (k_with "zexec For" => (k_here; refine Hold.go ?_))
  (k_with "znz fit" => (first | with_reducible assumption | exact fit_row (by with_reducible assumption) (by with_reducible assumption) | exact lt_len (by with_reducible assumption) (by with_reducible assumption) | omega | ((try simp only [List.length_map, List.length_cons, List.length_nil, List.size_toArray]); omega)))
  (k_with "zcall builtin:len" => (k_here; (with_reducible show wpAny _ _ (call (Value.builtin "len") [Value.ref _]) _ _ _); k_dflt (refine' nz_len ?q11N ?q11m ?q11f ?_; (case q11N => k_asm); (case q11m => k_mem); (case q11f => walk_at "nz fit"); k_whole)))
  (k_with "zsubscriptTail" => (k_here; (with_reducible show wpAny _ _ (subscriptTail _ _ (Value.ref _) (Value.int _ _)) _ _ _); k_dflt (refine' nz_item ?q12N ?q12m ?q12a ?q12b ?q12f ?_ ?q12k; (case q12N => k_asm); (case q12m => k_mem); (case q12a | q12b | q12f => walk_at "nz fit"); (case q12k => with_unfolding_all rfl); k_whole); intro vpq12 hvpq12))
  (k_with "zexecs cons" => (k_here; first | k_gentoks | (k_made; walk_at "execs cons") | (with_reducible refine cut_cons fun qk hqk => ?_)))
  (k_with "zQEnd" => (refine' behind_go ?q14h ?_; (case q14h => with_reducible assumption); dsimp only))
  (k_with "zeval Name" => (k_here; (with_reducible show wpAny _ _ (eval (Expr.Name _ _) (compEnvC _ _ _ _)) _ _ _); k_dflt (first | refine LCgL.ld_own (by k_asm) (by k_mem) (by assumption) (by assumption) ?_ | refine kcf_cell (by k_asm) (by rfl) (by k_mem) (by k_asm) ?_ | refine LCgL.ld_global (by k_asm) (by k_asm) (by k_asm) (by k_is) ?_ | refine LCgL.ld_built (by k_asm) (by k_asm) (by k_asm) (by k_is) (by boot_by_name) (by decide) ?_ | refine Hold.go ?_)))
  (k_with "zCompEnd" => (k_here; refine Hold.go ?_))
  (k_with "zCompSrc" => (k_here; refine Hold.go ?_))
  (k_with "znz sub" => first | with_reducible assumption | exact fun _ h => h | (intro p9q22 hp9q22; walk_at "nz in") | (intro p9q22 hp9q22; k_mem))
  (k_with "znz item" => (k_here; (with_reducible show wpAny _ _ (subscriptTail _ _ (Value.ref _) (Value.int _ _)) _ _ _); k_dflt (first | (refine' mat_item ?q23N ?q23m ?q23s ?q23a ?q23b ?q23f ?_ ?q23k; (case q23m => with_reducible assumption); (case q23N => k_asm); (case q23s => walk_at "nz sub"); (case q23a | q23b | q23f => walk_at "nz fit"); (case q23k => with_unfolding_all rfl); k_whole; intro bpq23 rowpq23 hrowpq23 hbrpq23; (try (have hlpq23 := Mat.getRow (by with_reducible assumption) hrowpq23))) | (refine' row_item ?q23N ?q23m ?q23s ?q23a ?q23b ?q23f ?_ ?q23k; (case q23m => with_reducible assumption); (case q23N => k_asm); (case q23s => walk_at "nz sub"); (case q23a | q23b | q23f => walk_at "nz fit"); (case q23k => with_unfolding_all rfl); k_whole; intro ipq23 tpq23 hipq23))))
  (k_with "zsubscriptTail" => walk_at "nz item")
  (k_with "zcall builtin:len" => (k_here; (with_reducible show wpAny _ _ (call (Value.builtin "len") [Value.ref _]) _ _ _); k_dflt (first | (refine' mat_len ?q25N ?q25m ?q25s ?q25f ?_; (case q25m => with_reducible assumption); (case q25N => k_asm); (case q25s => walk_at "nz sub"); (case q25f => walk_at "nz fit"); k_whole) | (refine' row_len ?q25N ?q25m ?q25s ?q25f ?_; (case q25m => with_reducible assumption); (case q25N => k_asm); (case q25s => walk_at "nz sub"); (case q25f => walk_at "nz fit"); k_whole))))
  (k_with "zcompareOp Eq ref ref" => (k_here; k_dflt (refine' mat_eq ?q26N ?q26a ?q26b ?q26c ?q26d ?q26u ?_; (case q26a | q26c => with_reducible assumption); (case q26N => k_asm); (case q26b | q26d => walk_at "nz sub"); (case q26u => walk_at "nz units"); k_whole)))
  (k_with "zcompareOp NotEq ref ref" => (k_here; k_dflt (refine' mat_ne ?q27N ?q27a ?q27b ?q27c ?q27d ?q27u ?_; (case q27a | q27c => with_reducible assumption); (case q27N => k_asm); (case q27b | q27d => walk_at "nz sub"); (case q27u => walk_at "nz units"); k_whole)))
  (k_with "zcall type:list" => (k_here; (with_reducible show wpAny _ _ (call (Value.type _) [Value.ref _]) _ _ _); k_dflt (refine' row_copy ?q29F ?q29N ?q29m ?q29s ?q29f ?_; (case q29m => with_reducible assumption); (case q29F | q29N => k_asm); (case q29s => walk_at "nz sub"); (case q29f => walk_at "nz fit"); k_whole); intro Dpq29 opq29 hpq29 Fpq29 Npq29 l1pq29 hDpq29; (have nzqpq29 := l1pq29); (k_lt l1pq29); (try k_sweep); (try dsimp only)))
  (k_with "zsubscriptTail Name Slice ref ref" => (k_here; (with_reducible show wpAny _ _ (subscriptTail _ (PySem.Expr.Slice none none (some _) _) (Value.ref _) (Value.ref _)) _ _ _); k_dflt (first | (refine' row_rev ?q30F ?q30N ?q30m ?q30s ?q30f ?q30k ?_ ?q30e ?q30t; (case q30m => with_reducible assumption); (case q30F | q30N => k_asm); (case q30s => walk_at "nz sub"); (case q30f => walk_at "nz fit"); (case q30k => exact IsPart.int _ _); (case q30e => with_unfolding_all rfl); (case q30t => kmk_pure)) | (refine' mat_rev ?q30F ?q30N ?q30m ?q30s ?q30f ?q30k ?_ ?q30e ?q30t; (case q30m => with_reducible assumption); (case q30F | q30N => k_asm); (case q30s => walk_at "nz sub"); (case q30f => walk_at "nz fit"); (case q30k => exact IsPart.int _ _); (case q30e => with_unfolding_all rfl); (case q30t => kmk_pure))); intro Dpq30 opq30 hpq30 Fpq30 Npq30 l1pq30 hDpq30; (have nzqpq30 := l1pq30); (k_lt l1pq30); (try k_sweep); (try dsimp only)))
  (k_with "zEltEnd" => (k_here; refine Hold.go ?_))
  (k_with "zTurnC" => (k_here; refine Hold.go ?_))
  (k_with "zpyIter ref" => (k_here; refine Hold.go ?_))
  (k_with "zTurnU" => (k_here; refine Hold.go ?_))
  (k_with "zexec For Name Call cons nil" => (k_here; k_dflt (refine wpAny_For ?_)))
  (k_with "zexec For" => (k_here; k_dflt (refine wpAny_For ?_)))
  (k_with "zcompareOp Eq ref ref" => (k_here; k_dflt (refine' mat_eqNil ?q40N ?q40a ?q40b ?q40c ?q40u ?_; (case q40a => with_reducible assumption); (case q40N => k_asm); (case q40b => walk_at "nz sub"); (case q40c => k_mem); (case q40u => walk_at "nz units"); k_whole)))
  (k_with "zcompareOp Eq ref ref" => (k_here; k_dflt (refine' mat_neNil ?q41N ?q41a ?q41b ?q41e ?q41c ?q41u ?_; (case q41a | q41e => with_reducible assumption); (case q41N => k_asm); (case q41b => walk_at "nz sub"); (case q41c => k_mem); (case q41u => walk_at "nz units"); k_whole)))
  (k_with "zcompareOp Eq ref ref" => (k_here; k_dflt (refine' mat_eq ?q42N ?q42a ?q42b ?q42c ?q42d ?q42u ?_; (case q42a | q42c => with_reducible assumption); (case q42N => k_asm); (case q42b | q42d => walk_at "nz sub"); (case q42u => walk_at "nz units"); k_whole)))
  (k_with "zexec Raise" => (k_here; refine Hold.go ?_))
  (k_with "znz dec" => ((try simp only [beq_iff_eq, bne_iff_ne, decide_eq_true_eq, ne_eq, Bool.not_eq_true', Bool.not_eq_true]); omega))
  (k_with "zite" => (k_here; k_dflt (first | refine ite_pos (by walk_at "nz dec") ?_ | refine ite_neg (by walk_at "nz dec") ?_)))
  (k_with "znz subs" => first | walk_at "nz item" | (k_here; k_dflt (first | ((with_reducible show wpAny _ _ (subscriptTail _ _ (Value.ref _) (Value.int 0 _)) _ _ _); refine' nz_pair0 ?q48N ?q48m ?_ ?q48k; (case q48N => k_asm); (case q48m => k_mem); (case q48k => with_unfolding_all rfl); k_whole) | ((with_reducible show wpAny _ _ (subscriptTail _ _ (Value.ref _) (Value.int 1 _)) _ _ _); refine' nz_pair1 ?q48N ?q48m ?_ ?q48k; (case q48N => k_asm); (case q48m => k_mem); (case q48k => with_unfolding_all rfl); k_whole))))
  (k_with "zsubscriptTail Name" => walk_at "nz subs")
  (k_with "zsubscriptTail Subscript" => walk_at "nz subs")
  (k_with "zSrcK" => (k_here; refine Hold.go ?_))
  (k_with "zgetAttr ref" => (k_here; k_dflt (first | ((with_reducible show wpAny _ _ (getAttr (Value.ref _) (Str.ofString "rows") true) _ _ _); refine' pl_rows ?q60F ?q60X ?q60N ?q60hp ?q60s ?_; (case q60hp => with_reducible assumption); (case q60F | q60X | q60N => k_asm); (case q60s => walk_at "nz sub"); k_whole) | ((with_reducible show wpAny _ _ (getAttr (Value.ref _) (Str.ofString "width") true) _ _ _); refine' pl_width ?q60F ?q60X ?q60N ?q60hp ?q60s ?_; (case q60hp => with_reducible assumption); (case q60F | q60X | q60N => k_asm); (case q60s => walk_at "nz sub"); k_whole; intro wtpq60) | ((with_reducible show wpAny _ _ (getAttr (Value.ref _) (Str.ofString "height") true) _ _ _); refine' pl_height ?q60F ?q60X ?q60N ?q60hp ?q60s ?_; (case q60hp => with_reducible assumption); (case q60F | q60X | q60N => k_asm); (case q60s => walk_at "nz sub"); k_whole; intro wtpq60)); (try dsimp only)))
  (k_with "zexec Raise some none" => (k_here; refine Hold.go ?_))
  (k_with "zRaiseEnd" => (k_here; refine Hold.go ?_))
  (k_with "zTurnZ" => (k_here; refine Hold.go ?_))
  (k_with "zcall ref" => (k_here; (with_reducible show wpAny _ _ (call (Value.ref 44) [Value.str _ _]) _ _ _); k_dflt (refine' excMake_t ?q75B ?q75F ?q75X ?q75T ?q75hf ?q75hk ?q75N ?q75hd ?q75hu ?_; (case q75B | q75F | q75X | q75T => k_asm); (case q75hf | q75hk => first | assumption | exact rfl); (case q75N => k_asm); (case q75hd => walk_at "nz room"); (case q75hu => walk_at "nz units"); k_whole); intro epq75 tpq75 dpq75 odpq75 hpq75 tkpq75 hmdpq75 hdepq75 hnepq75 Fpq75 Npq75; (try dsimp only)))
  (k_with "zcall type:zip" => (k_here; (with_reducible show wpAny _ _ (call (Value.type _) [Value.ref _, Value.ref _]) _ _ _); k_dflt (refine' zip_make ?q76F ?q76N ?q76m1 ?q76m2 ?_; (case q76F | q76N => k_asm); (case q76m1 | q76m2 => k_mem); k_whole); intro zpq76 hpq76 Zpq76 Fpq76 Npq76; (try dsimp only)))
  (k_with "zeval Name" => (k_here; k_dflt (refine' nz_local ?q77F ?q77hx ?_ ?q77hL ?q77hk ?q77hl ?q77hd; (case q77F => k_asm); (case q77hl => exact rfl); (case q77hx => first | with_reducible assumption | exact if_pos rfl | (refine (if_neg (by decide)).trans ?_; first | with_reducible assumption | exact if_pos rfl | (refine (if_neg (by decide)).trans ?_; first | with_reducible assumption | exact if_pos rfl | (refine (if_neg (by decide)).trans ?_; first | with_reducible assumption | exact if_pos rfl | (refine (if_neg (by decide)).trans ?_; first | with_reducible assumption | exact if_pos rfl))))); (case q77hL | q77hk => exact rfl); (case q77hd => decide); k_whole)))
  trivial
section
variable {w : World} {mean : ExcName → Option Value} {mg mb : Str → Option Value} {A₀ : Around} {dp un : Nat} {gd : Option (List Code)} {env : Env} {outer : List Env} {base h₀ : Heap} {L : Addr} {m : Str → Option Value} {s : Shared} {R : Result → Shared → Prop} {news : List (Addr × Obj)}
  (B : Below A₀ base outer h₀) (F : Fr h₀ L s.heap m) (X : (Mine.hd.heap_39 w.params).In h₀) (T : TopH mean mg mb h₀)
  (hf : env.frame = some L) (hk : env.scope.kind = .function)
include B F X T hf hk

def rowDiff (acc : Int) (a b : List Int) : Int := (a.zip b).foldl (fun acc q => max acc (q.1 - q.2).natAbs) acc
def diffM (M1 M2 : List (List Int)) : Int := (M1.zip M2).foldl (fun acc p => rowDiff acc p.1 p.2) 0
omit B F X T hf hk in
theorem foldl_take {α β : Type} {f : β → α → β} {a : β} {l : List α} {i : Nat} {x : α} (h : l[i]? = some x) : (l.take (i + 1)).foldl f a = f ((l.take i).foldl f a) x := by
  rw [List.take_succ, h, List.foldl_append]; rfl
omit B F X T hf hk in
theorem step_max (acc y : Int) : (if (if y < 0 then -y else y) > acc then (if y < 0 then -y else y) else acc) = max acc (y.natAbs : Int) := by
  rw [Int.max_def]; split <;> split <;> split <;> omega
theorem greatestBad_t {x1 x2 : Addr} {W1 H1 W2 H2 : Int} {r1 r2 : Addr} {n1 n2 : List (Addr × Obj)} (N : News h₀ L s.heap news) (hp1 : PlIn n1 x1 W1 H1 r1) (s1 : ∀ p ∈ n1, p ∈ news) (hp2 : PlIn n2 x2 W2 H2 r2) (s2 : ∀ p ∈ n2, p ∈ news) (hne0 : W1 ≠ W2)
    (hd : dp + 8 ≤ 400) (hu : un + 160 ≤ 1000) (raised : Throws R env outer h₀ L m news s) :
    codeAny (model PySem.Challenge.pw_nz0241_01 w) (nzA dp un gd env outer) (.call (.ref 112) ⟨[.ref x1, .ref x2], []⟩) R s := by
  replace hp1 := hp1.mono s1
  replace hp2 := hp2.mono s2
  k_dflt (refine' code_def ?k1 ?k2 ?k3 ?k4 ?k5 ?kA ?kF ?kK ?k6 ?k7 ?k8 ?k9 ?kB ?_ ?c2 ?c3 ?c4 ?c5; (case kA => exact rfl); (case kF => first | assumption | exact rfl); (case kK => first | assumption | exact rfl); (case k1 => k_asm); (case k2 => k_asm); (case k3 => k_asm); (case k4 => k_asm); (case k5 => k_asm); (case k6 => k_is); (case k7 => k_is); (case k8 => walk_at "nz room"); (case k9 => exact BindsTo.of_eq rfl); (case c5 => decide); (case kB => exact locs rfl); (case c2 => exact rfl); (case c3 => exact rfl); (case c4 => exact rfl); k_whole; intro g1 L1 h1 FG1 F1 N1 B1 X1 T1; (try dsimp only); (try k_lift B1); (try k_fold))

  k_steps
  unfold Hold
  refine raise_go X1 rfl fun o44 hC44 => ?_
  k_steps
  unfold Hold
  (rename News _ _ _ _ => N9)
  (rename Fr _ _ _ _ => F9)
  (rename MsgDict _ _ => hmd9)
  (rename @Ne Nat _ _ => hde9)
  (rename (∀ p : Addr × Obj, p ∈ _ → @Ne Nat p.1 _) => hne9)
  exact throw_end B1 FG1 hf hC44 F9 rfl rfl N9 hmd9 (by decide) hde9 (by intro p hp; walk_at "nz in") hne9 raised
theorem greatest_t {x1 x2 : Addr} {W H : Int} {r1 r2 : Addr} {M1 M2 : List (List Int)} {n1 n2 n3 n4 : List (Addr × Obj)} (N : News h₀ L s.heap news) (hp1 : PlIn n1 x1 W H r1) (s1 : ∀ p ∈ n1, p ∈ news) (hp2 : PlIn n2 x2 W H r2) (s2 : ∀ p ∈ n2, p ∈ news) (hM1 : DatIn n3 (.ref r1) (matD M1)) (s3 : ∀ p ∈ n3, p ∈ news) (hM2 : DatIn n4 (.ref r2) (matD M2)) (s4 : ∀ p ∈ n4, p ∈ news)
    (hd : dp + 8 ≤ 400) (hu : un + 160 ≤ 1000)
    (ret : ∀ t h' tk', Fr h₀ L h' m → News h₀ L h' news → R (.ok (.ret (.int (diffM M1 M2) t))) { s with heap := h', toks := tk' }) :
    codeAny (model PySem.Challenge.pw_nz0241_01 w) (nzA dp un gd env outer) (.call (.ref 112) ⟨[.ref x1, .ref x2], []⟩) R s := by
  replace hp1 := hp1.mono s1
  replace hp2 := hp2.mono s2
  replace hM1 := hM1.mono s3
  replace hM2 := hM2.mono s4
  obtain ⟨vs1, k1, m1, d1, e1⟩ := datIn_mat hM1
  obtain ⟨vs2, k2, m2, d2, e2⟩ := datIn_mat hM2
  k_dflt (refine' code_def ?k1 ?k2 ?k3 ?k4 ?k5 ?kA ?kF ?kK ?k6 ?k7 ?k8 ?k9 ?kB ?_ ?c2 ?c3 ?c4 ?c5; (case kA => exact rfl); (case kF => first | assumption | exact rfl); (case kK => first | assumption | exact rfl); (case k1 => k_asm); (case k2 => k_asm); (case k3 => k_asm); (case k4 => k_asm); (case k5 => k_asm); (case k6 => k_is); (case k7 => k_is); (case k8 => walk_at "nz room"); (case k9 => exact BindsTo.of_eq rfl); (case c5 => decide); (case kB => exact locs rfl); (case c2 => exact rfl); (case c3 => exact rfl); (case c4 => exact rfl); k_whole; intro g1 L1 h1 FG1 F1 N1 B1 X1 T1; (try dsimp only); (try k_lift B1); (try k_fold))

  k_steps
  all_goals first | (exfalso; (rename (W ≠ W) => hz); exact hz rfl) | (exfalso; (rename (H ≠ H) => hz); exact hz rfl) | skip
  unfold Hold
  (rename ZipSt _ _ _ _ _ _ _ _ _ => Z9)
  (rename News _ _ _ _ => N9)
  (rename Fr _ _ _ _ => F9)
  k_dflt (refine' for_zip (fun i m' => ∃ t, m' (Str.ofString "most") = some (.int (((M1.zip M2).take i).foldl (fun acc p => rowDiff acc p.1 p.2) 0) t)) ?hh Z9 ?hL F9 N9 ?h0 ?step ?hR)
  case hh => exact rfl
  case hL => exact rfl
  case h0 => exact ⟨_, if_pos rfl⟩
  case step =>
    clear Z9 F9 N9
    intro i v0 v1 m₁ g own h tk hv0 hv1 hJ F' N'
    obtain ⟨t, hJ⟩ := hJ
    obtain ⟨b1, row1, rfl, hr1, hb1⟩ := datAll_rowAt d1 hv0
    obtain ⟨b2, row2, rfl, hr2, hb2⟩ := datAll_rowAt d2 hv1
    obtain ⟨us1, j1, mm1, dd1, ee1⟩ := datIn_row hb1
    obtain ⟨us2, j2, mm2, dd2, ee2⟩ := datIn_row hb2
    generalize hacc : ((M1.zip M2).take i).foldl (fun acc p => rowDiff acc p.1 p.2) 0 = acc at hJ
    k_steps
    unfold Hold
    (rename ZipSt _ _ _ _ _ _ _ _ _ => Z9)
    (rename News _ _ _ _ => N9)
    (rename Fr _ _ _ _ => F9)
    k_dflt (refine' for_zip (fun i m' => ∃ t, m' (Str.ofString "most") = some (.int (((row1.zip row2).take i).foldl (fun acc q => max acc (q.1 - q.2).natAbs) acc) t)) ?ihh Z9 ?iL F9 N9 ?i0 ?istep ?iR)
    case ihh => exact rfl
    case iL => exact rfl
    case i0 => exact ⟨t, (if_neg (by decide)).trans ((if_neg (by decide)).trans hJ)⟩
    case istep =>
      clear Z9 F9 N9 hJ
      intro i2 w0 w1 m₂ g2 own2 h2 tk2 hw0 hw1 hJ F2 N2
      obtain ⟨t2, hJ⟩ := hJ
      obtain ⟨y1, ty1, rfl, hy1⟩ := datAll_intAt dd1 hw0
      obtain ⟨y2, ty2, rfl, hy2⟩ := datAll_intAt dd2 hw1
      generalize hacc2 : ((row1.zip row2).take i2).foldl (fun acc q => max acc (q.1 - q.2).natAbs) acc = acc2 at hJ
      k_steps
      (rename News _ _ _ _ => N9)
      (rename Fr _ _ _ _ => F9)
      rw [step_max] at F9
      refine Hold.out ⟨rfl, _, _, _, rfl, F9, N9, ?_⟩
      rw [foldl_take (zip_get hy1 hy2), hacc2]
      exact ⟨_, if_pos rfl⟩
    case iR =>
      intro h2 tk2 m₂ F2 N2 hJ
      obtain ⟨t2, hJ⟩ := hJ
      have hz : (row1.zip row2).take (min us1.length us2.length) = row1.zip row2 := List.take_of_length_le (by rw [List.length_zip, ee1, ee2]; exact Nat.le_refl _)
      rw [hz] at hJ
      k_steps
      (rename News _ _ _ _ => N9)
      (rename Fr _ _ _ _ => F9)
      refine Hold.out ⟨rfl, _, _, _, rfl, F9, N9, ?_⟩
      rw [foldl_take (zip_get hr1 hr2), hacc]
      exact ⟨_, hJ⟩
  case hR =>
    intro h' tk m' F' N' hJ
    obtain ⟨t, hJ⟩ := hJ
    have hz : (M1.zip M2).take (min vs1.length vs2.length) = M1.zip M2 := List.take_of_length_le (by rw [List.length_zip, e1, e2]; exact Nat.le_refl _)
    rw [hz] at hJ
    k_steps
    (rename News _ _ _ _ => N9)
    (rename Fr _ _ _ _ => F9)
    exact ret _ _ _ F9 N9

end
/-- the ledger with another object at b -/
def updL (b : Addr) (o : Obj) (l : List (Addr × Obj)) : List (Addr × Obj) := l.map fun p => if p.1 = b then (b, o) else p
theorem updL_off {b : Addr} {o : Obj} {l : List (Addr × Obj)} (h : ∀ p ∈ l, p.1 ≠ b) : updL b o l = l := by
  induction l with
  | nil => rfl
  | cons p r ih =>
    have := h p (.head _)
    simp only [updL, List.map_cons, if_neg this]
    exact congrArg _ (ih fun q hq => h q (.tail _ hq))
theorem updL_app {b : Addr} {o : Obj} {l k : List (Addr × Obj)} : updL b o (l ++ k) = updL b o l ++ updL b o k := List.map_append ..
theorem updL_mem {b : Addr} {o : Obj} {l : List (Addr × Obj)} {p : Addr × Obj} (hp : p ∈ l) (hn : p.1 ≠ b) : p ∈ updL b o l := List.mem_map.mpr ⟨p, hp, if_neg hn⟩
theorem updL_at {b : Addr} {o : Obj} {l : List (Addr × Obj)} {q : Obj} (hp : (b, q) ∈ l) : (b, o) ∈ updL b o l := List.mem_map.mpr ⟨_, hp, if_pos rfl⟩
theorem updL_apart {b : Addr} {o : Obj} {l k : List (Addr × Obj)} (h : Apart l k) : Apart (updL b o l) k := fun p hp q hq => by
  obtain ⟨p', hp', rfl⟩ := List.mem_map.mp hp
  by_cases e : p'.1 = b
  · simp only [if_pos e]; exact e ▸ h p' hp' q hq
  · simp only [if_neg e]; exact h p' hp' q hq
section
open PySem.Spec
/-- a matrix whose rows are different lists, at the addresses as -/
structure MatA (tl : List (Addr × Obj)) (r : Addr) (as : List Addr) (M : List (List Int)) : Prop where
  at_ : ∃ n, (r, listOf (as.map Value.ref).toArray n) ∈ tl
  nr : ∀ a ∈ as, @Ne Nat a r
  nd : as.Nodup
  len : as.length = M.length
  row : ∀ (k : Nat) a row, as[k]? = some a → M[k]? = some row → ∃ us n, (a, listOf us.toArray n) ∈ tl ∧ DatAll ([] : List (Addr × Obj)) us (row.map .int)
theorem datAll_of {tl : List (Addr × Obj)} : ∀ {as : List Addr} {M : List (List Int)}, as.length = M.length → (∀ (k : Nat) a row, as[k]? = some a → M[k]? = some row → ∃ us n, (a, listOf us.toArray n) ∈ tl ∧ DatAll ([] : List (Addr × Obj)) us (row.map .int)) →
    DatAll tl (as.map Value.ref) (M.map rowD)
  | [], [], _, _ => .nil
  | [], _ :: _, h, _ => by simp at h
  | _ :: _, [], h, _ => by simp at h
  | a :: as, row :: M, h, k => by
    obtain ⟨us, n, h1, h2⟩ := k 0 a row rfl rfl
    exact .cons (DatIn.list h1 (datAll_free h2)) (datAll_of (by simpa using h) fun i a row e1 e2 => k (i + 1) a row e1 e2)
theorem MatA.dat {tl : List (Addr × Obj)} {r : Addr} {as : List Addr} {M : List (List Int)} (A : MatA tl r as M) : DatIn tl (.ref r) (matD M) := by
  obtain ⟨n, h⟩ := A.at_
  exact DatIn.list h (datAll_of A.len A.row)
theorem MatA.mono {tl tl' : List (Addr × Obj)} {r : Addr} {as : List Addr} {M : List (List Int)} (A : MatA tl r as M) (s : ∀ p ∈ tl, p ∈ tl') : MatA tl' r as M :=
  ⟨let ⟨n, h⟩ := A.at_; ⟨n, s _ h⟩, A.nr, A.nd, A.len, fun k a row e1 e2 => let ⟨us, n, h1, h2⟩ := A.row k a row e1 e2; ⟨us, n, s _ h1, h2⟩⟩
theorem datAll_set {nw : List (Addr × Obj)} {v : Int} {t : Tok} : ∀ {us : List Value} {row : List Int} {k : Nat}, DatAll nw us (row.map .int) → DatAll nw (us.set k (.int v t)) ((row.set k v).map .int)
  | _, [], _, h => by cases h; exact .nil
  | _, x :: row, 0, h => by
    cases h with
    | cons a b => exact .cons (.int v t) b
  | _, x :: row, k + 1, h => by
    cases h with
    | cons a b => exact .cons a (datAll_set b)
theorem MatA.store {tl : List (Addr × Obj)} {r b : Addr} {as : List Addr} {M : List (List Int)} {y x : Nat} {row : List Int} {us : List Value} {n n' : Nat} {v : Int} {t : Tok} (A : MatA tl r as M) (hb : as[y]? = some b) (hrow : M[y]? = some row) (hu : (b, listOf us.toArray n) ∈ tl) (hd : DatAll ([] : List (Addr × Obj)) us (row.map .int)) :
    MatA (updL b (listOf (us.set x (.int v t)).toArray n') tl) r as (M.set y (row.set x v)) := by
  have hbr : @Ne Nat b r := A.nr b (List.mem_of_getElem? hb)
  refine ⟨?_, A.nr, A.nd, by rw [List.length_set]; exact A.len, fun k a row' e1 e2 => ?_⟩
  · obtain ⟨n, h⟩ := A.at_
    exact ⟨n, updL_mem h (Ne.symm hbr)⟩
  · by_cases hk : k = y
    · subst hk
      rw [hb] at e1
      cases e1
      have hk' : k < M.length := (List.getElem?_eq_some_iff.mp hrow).1
      rw [List.getElem?_set_self hk'] at e2
      cases e2
      exact ⟨_, _, updL_at hu, datAll_set hd⟩
    · rw [List.getElem?_set_ne (Ne.symm hk)] at e2
      obtain ⟨us', m, h1, h2⟩ := A.row k a row' e1 e2
      refine ⟨us', m, updL_mem h1 fun z => hk ?_, h2⟩
      have z' : a = b := z
      subst z'
      obtain ⟨i1, j1⟩ := List.getElem?_eq_some_iff.mp e1
      obtain ⟨i2, j2⟩ := List.getElem?_eq_some_iff.mp hb
      exact (List.getElem_inj A.nd).mp (j1.trans j2.symm)
section
variable {prog : Program} {w : World} {A : Around} {E : Value → Shared → Prop} {s : Shared} {h₀ : Heap} {L r b : Addr} {m : Str → Option Value} {news n0 : List (Addr × Obj)} {as : List Addr} {M : List (List Int)}
theorem news_updL {h₀ h : Heap} {L b : Addr} {m : Str → Option Value} {news : List (Addr × Obj)} {o o' : Obj} {f : Obj → Obj} (F : Fr h₀ L h m) (N : News h₀ L h news) (hb : (b, o) ∈ news) (e : f o = o') (hf : o'.isFreed = false) : Fr h₀ L (h.update b f) m ∧ News h₀ L (h.update b f) (updL b o' news) := by
  have D := N (b, o) hb
  obtain ⟨oL, es, ep, hL, r⟩ := F.ns
  refine ⟨⟨⟨oL, es, ep, (Heap.get?_update_ne _ _ _ _ (Ne.symm D.2.1)).trans hL, r⟩, fun c x q => (Heap.get?_update_ne _ _ _ _ fun z => ?_).trans (F.keep c x q), F.above⟩, fun p hp => ?_⟩
  · have := D.2.2; rw [← z, q] at this; cases this
  · obtain ⟨p', hp', rfl⟩ := List.mem_map.mp hp
    by_cases q : p'.1 = b
    · rw [if_pos q]
      have g := Heap.get?_update_self f D.1 (by rw [e]; exact hf)
      rw [e] at g
      exact ⟨g, D.2⟩
    · rw [if_neg q]
      exact ⟨(Heap.get?_update_ne _ _ _ _ q).trans (N p' hp').1, (N p' hp').2⟩
theorem list_store {us : List Value} {n : Nat} {k : Int} {u : Tok} {v : Value} {Q : Unit → Shared → Prop} (F : Fr h₀ L s.heap m) (N : News h₀ L s.heap news) (hm : (b, listOf us.toArray n) ∈ news) (h0 : 0 ≤ k) (h1 : k < (us.length : Int)) (hfit : us.length < 1000000)
    (h : ∀ n' h', Fr h₀ L h' m → News h₀ L h' (updL b (listOf (us.set k.toNat v).toArray n') news) → Q () { s with heap := h' }) :
    wpAny (model prog w) A (setItem (.ref b) (.int k u) v) Q E s := by
  obtain ⟨n', e⟩ : ∃ n', Obj.mapSeq (·.setIfInBounds k.toNat v) (listOf us.toArray n) = listOf (us.set k.toNat v).toArray n' := ⟨_, by
    show _ = listOf _ _
    simp only [Obj.mapSeq, List.setIfInBounds_toArray]
    rfl⟩
  obtain ⟨F', N'⟩ := news_updL (f := Obj.mapSeq (·.setIfInBounds k.toNat v)) F N hm e rfl
  exact ki_setAt (N _ hm).1 h0 (by omega) (by rw [List.size_toArray]; exact h1) (h n' _ F' N')
end
end
section
open PySem.Spec
section
variable {prog : Program} {w : World} {A : Around} {E : Value → Shared → Prop} {s : Shared} {h₀ : Heap} {L r b : Addr} {m : Str → Option Value} {news n0 : List (Addr × Obj)} {as : List Addr} {M : List (List Int)}
theorem mat_item2 {value slice : PySem.Expr} {k : Int} {u : Tok} {Q : Value → Shared → Prop} (N : News h₀ L s.heap news) (hA : MatA n0 r as M) (sub : ∀ p ∈ n0, p ∈ news)
    (h0 : 0 ≤ k) (h1 : k < (M.length : Int)) (hfit : M.length < 1000000) (h : ∀ b row, as[k.toNat]? = some b → M[k.toNat]? = some row → DatIn n0 (.ref b) (rowD row) → Q (.ref b) s)
    (hs : subscripted slice false (.ref r) (.int k u) = operate [.ref r, .int k u] (getItem (.ref r) (.int k u)) := by with_unfolding_all rfl) :
    wpAny (model prog w) A (subscriptTail value slice (.ref r) (.int k u)) Q E s := by
  obtain ⟨n, hm⟩ := hA.at_
  have hl := hA.len
  refine nz_item N (sub _ hm) h0 (by rw [List.length_map]; omega) (by rw [List.length_map]; omega) (fun v hv => ?_) hs
  rw [List.getElem?_map] at hv
  obtain ⟨b, hb, rfl⟩ := Option.map_eq_some_iff.mp hv
  have hk : k.toNat < M.length := by omega
  have hrow := List.getElem?_eq_getElem hk
  obtain ⟨us, n', h1', h2'⟩ := hA.row _ _ _ hb hrow
  exact h b _ hb hrow (DatIn.list h1' (datAll_free h2'))
theorem mat_store {k y : Int} {u t : Tok} {v : Int} {row : List Int} {Q : Unit → Shared → Prop} (F : Fr h₀ L s.heap m) (N : News h₀ L s.heap news) (hA : MatA n0 r as M) (sub : ∀ p ∈ n0, p ∈ news) (hb : as[y.toNat]? = some b) (hrow : M[y.toNat]? = some row) (h0 : 0 ≤ k) (h1 : k < (row.length : Int)) (hfit : row.length < 1000000)
    (h : ∀ o' h', (∃ (us : List Value) (n : Nat), (b, listOf us.toArray n) ∈ n0) → Fr h₀ L h' m → News h₀ L h' (updL b o' news) → MatA (updL b o' n0) r as (M.set y.toNat (row.set k.toNat v)) → Q () { s with heap := h' }) :
    wpAny (model prog w) A (setItem (.ref b) (.int k u) (.int v t)) Q E s := by
  obtain ⟨us, n, h1', h2'⟩ := hA.row _ _ _ hb hrow
  have hl : us.length = row.length := by rw [h2'.length, List.length_map]
  exact list_store F N (sub _ h1') h0 (by omega) (by omega) fun n' h' F' N' => h _ h' ⟨_, _, h1'⟩ F' N' (hA.store hb hrow h1' h2')
theorem updL_same {o : Obj} {h : Heap} (N : News h₀ L h news) (hb : (b, o) ∈ news) : ∀ {l : List (Addr × Obj)}, (∀ p ∈ l, p ∈ news) → updL b o l = l
  | [], _ => rfl
  | p :: l, hl => by
    show (if p.1 = b then (b, o) else p) :: updL b o l = _
    rw [updL_same N hb fun q hq => hl q (.tail _ hq)]
    by_cases q : p.1 = b
    · rw [if_pos q]
      have e1 := (N p (hl p (.head _))).1
      have e2 := (N _ hb).1
      rw [q] at e1
      rw [e1] at e2
      obtain ⟨pa, po⟩ := p
      cases e2
      cases q
      rfl
    · rw [if_neg q]
theorem updL_split {o o' : Obj} {l k : List (Addr × Obj)} (hb : (b, o) ∈ l) (ha : Apart l k) : updL b o' (l ++ k) = updL b o' l ++ k := by
  rw [updL_app, updL_off (l := k) fun p hp => Ne.symm (ha _ hb p hp)]
theorem plIn_updL {h : Heap} {o' : Obj} {us : List Value} {n : Nat} {x : Addr} {W H : Int} (N : News h₀ L h news) (hp : PlIn n0 x W H r) (sub : ∀ p ∈ n0, p ∈ news) (hb : (b, listOf us.toArray n) ∈ news) : PlIn (updL b o' n0) x W H r := by
  obtain ⟨dx, a1, a2, a3, t1, t2, t3, t4, t5, k, h1, h2⟩ := hp
  refine ⟨dx, a1, a2, a3, t1, t2, t3, t4, t5, k, updL_mem h1 fun q => ?_, updL_mem h2 fun q => ?_⟩
  · have e1 := (N _ (sub _ h1)).1
    have e2 := (N _ hb).1
    rw [show x = b from q] at e1
    rw [e1] at e2
    cases e2
  · have e1 := (N _ (sub _ h2)).1
    have e2 := (N _ hb).1
    rw [show dx = b from q] at e1
    rw [e1] at e2
    have e3 : Value.type "dict" = Value.type "list" := congrArg Obj.cls (Option.some.inj e2)
    exact absurd e3 (by decide)
/-- rows at different addresses -/
def RowsA (tl : List (Addr × Obj)) (ys : List Value) (N : List (List Int)) : Prop :=
  ∃ as : List Addr, ys = as.map Value.ref ∧ as.Nodup ∧ as.length = N.length ∧ ∀ (k : Nat) a row, as[k]? = some a → N[k]? = some row → ∃ us n, (a, listOf us.toArray n) ∈ tl ∧ DatAll ([] : List (Addr × Obj)) us (row.map .int)
theorem RowsA.nil : RowsA [] [] [] := ⟨[], rfl, .nil, rfl, fun _ _ _ h => by simp at h⟩
theorem RowsA.snoc {tl t : List (Addr × Obj)} {ys : List Value} {N : List (List Int)} {D : Addr} {us : List Value} {n : Nat} {row : List Int} (R : RowsA tl ys N) (hD : (D, listOf us.toArray n) ∈ t) (hd : DatAll ([] : List (Addr × Obj)) us (row.map .int)) (ha : Apart t tl) :
    RowsA (t ++ tl) (ys ++ [.ref D]) (N ++ [row]) := by
  obtain ⟨as, rfl, nd, hl, hr⟩ := R
  refine ⟨as ++ [D], by rw [List.map_append]; rfl, ?_, by rw [List.length_append, List.length_append, hl]; rfl, fun k a row' e1 e2 => ?_⟩
  · rw [List.nodup_append]
    refine ⟨nd, List.nodup_cons.mpr ⟨by simp, .nil⟩, fun a ha' b hb => ?_⟩
    rw [List.mem_singleton.mp hb]
    obtain ⟨k, hk, rfl⟩ := List.getElem_of_mem ha'
    obtain ⟨us', n', h1, _⟩ := hr k _ _ (List.getElem?_eq_getElem hk) (List.getElem?_eq_getElem (hl ▸ hk))
    exact fun z => ha _ hD _ h1 z.symm
  · by_cases hk : k < as.length
    · rw [List.getElem?_append_left hk] at e1
      rw [List.getElem?_append_left (hl ▸ hk)] at e2
      obtain ⟨us', n', h1, h2⟩ := hr k a row' e1 e2
      exact ⟨us', n', List.mem_append_right _ h1, h2⟩
    · have hk' : k = as.length := by
        have := (List.getElem?_eq_some_iff.mp e1).1
        simp only [List.length_append, List.length_cons, List.length_nil] at this
        omega
      subst hk'
      rw [List.getElem?_append_right (Nat.le_refl _), Nat.sub_self] at e1
      rw [List.getElem?_append_right (by omega), show as.length - N.length = 0 by omega] at e2
      cases e1
      cases e2
      exact ⟨us, n, List.mem_append_left _ hD, hd⟩
end
end
section
open PySem.Spec
/-- the end of an element's walk: what came is a new list of these ints -/
def EltRow (h₀ : Heap) (L : Addr) (m : Str → Option Value) (led : List (Addr × Obj)) (row : List Int) (s₁ : Shared) (y : Value) (s₂ : Shared) : Prop :=
  ∃ D us n h' tk', y = .ref D ∧ s₂ = { s₁ with heap := h', toks := tk' } ∧ DatAll ([] : List (Addr × Obj)) us (row.map .int) ∧ (∀ q ∈ led, @Ne Nat D q.1) ∧ Fr h₀ L h' m ∧ News h₀ L h' ((D, listOf us.toArray n) :: led)
theorem eltRow_one {h₀ : Heap} {L : Addr} {m : Str → Option Value} {led : List (Addr × Obj)} {D : Addr} {o : Obj} {row : List Int} {s₁ : Shared} {h' : Heap} {tk' : Nat} (F' : Fr h₀ L h' m) (N' : News h₀ L h' ((D, o) :: led)) (hd : DatIn [(D, o)] (.ref D) (rowD row)) (lt : ∀ q ∈ led, q.1 < D) :
    EltRow h₀ L m led row s₁ (.ref D) { s₁ with heap := h', toks := tk' } := by
  obtain ⟨us, n, hm, hd', _⟩ := datIn_row hd
  have e := List.mem_singleton.mp hm
  cases e
  exact ⟨D, us, n, h', tk', rfl, rfl, datAll_free hd', fun q hq => Nat.ne_of_gt (lt q hq), F', N'⟩
section
variable {prog : Program} {w : World} {A : Around} {s s₁ : Shared} {h₀ : Heap} {L : Addr} {m : Str → Option Value} {env : Env} {nw n0 : List (Addr × Obj)} {elt : Expr} {x : Str} {scope : Scope} {cl : List (Str × Addr)}
theorem src_matA {r : Addr} {M : List (List Int)} {Fin : Shared → List Value → List (Addr × Obj) → Prop} (f : List Int → List Int) (hh : A.handled = none) (F : Fr h₀ L s₁.heap m) (N : News h₀ L s₁.heap nw) (hM : DatIn n0 (.ref r) (matD M)) (sub : ∀ p ∈ n0, p ∈ nw) (hsz : M.length < 1000000)
    (elt_ok : ∀ g (i : Nat) tl b (row : List Int) I oI C oC D oD m₂ h tk (E' : Value → Shared → Prop), M[i]? = some row → DatIn n0 (.ref b) (rowD row) → LCg.NsObj oC m₂ → m₂ x = some (.ref b) → Fr h₀ L h m → News h₀ L h ((I, oI) :: (C, oC) :: (D, oD) :: (tl ++ nw)) → LCg.Off3 I C D (tl ++ nw) → ((@Ne Nat I C) ∧ (@Ne Nat I D) ∧ (@Ne Nat C D)) → Apart tl nw →
      wpAny (model prog w) A (eval elt (compEnvC scope cl C env)) (EltRow h₀ L m ((I, oI) :: (C, oC) :: (D, oD) :: (tl ++ nw)) (f row) { { s₁ with heap := g } with heap := h, toks := tk }) E' { { s₁ with heap := g } with heap := h, toks := tk })
    (fin : ∀ g ys tl, ys.length = M.length → RowsA tl ys (M.map f) → Apart tl nw → Fin { s₁ with heap := g } ys (tl ++ nw)) :
    LCg.CompSrc prog w A h₀ L m env elt x scope cl Fin (.ref r) s₁ := by
  obtain ⟨vs, k, hm, hd, hl'⟩ := datIn_mat hM
  have hl : vs.toArray.size = M.length := by rw [List.size_toArray, hl']
  refine LCg.CompSrc.ledger hh F N (sub _ hm) (by rw [hl, sizeLine_eq]; omega) fun g => ?_
  rw [hl]
  refine compRest_inv (fun i ys nw' => ∃ tl, nw' = tl ++ nw ∧ ys.length = i ∧ RowsA tl ys ((M.take i).map f) ∧ Apart tl nw) ?_ ?_ _ _ _ _ (Nat.zero_add _) ⟨[], rfl, rfl, by simpa using RowsA.nil, Apart.nil⟩
  · rintro i ys _ hi ⟨tl, rfl, hyl, hR, ha⟩ v I oI C oC D m₂ h tk E' hv hC hx F' N' off ne
    have hv' : vs[i]? = some v := by simpa using hv
    obtain ⟨b, row, rfl, hrow, hb⟩ := datAll_rowAt hd hv'
    refine wpAny_mono (elt_ok g i tl b row I oI C oC D _ m₂ h tk E' hrow (hb.mono fun p hp => hp) hC hx F' N' off ne ha) (fun y s₂ q => ?_) fun _ _ e => e
    obtain ⟨D', us, n, h', tk', rfl, rfl, hds, hne, F2, N2⟩ := q
    have hA1 : Apart [(D', listOf us.toArray n)] tl := Apart.cons (fun q hq => hne q (.tail _ (.tail _ (.tail _ (List.mem_append_left _ hq))))) Apart.nil
    refine LCg.CompEnd.intro F2 N2 (((D', listOf us.toArray n) :: tl) ++ nw) (fun p hp => ?_) (LCg.Off3.of fun p hp => ?_) (.inr ⟨_, List.mem_append_right _ (sub _ hm), rfl, _, rfl⟩) ⟨(D', listOf us.toArray n) :: tl, rfl, by rw [List.length_append, hyl]; rfl, ?_, ?_⟩
    · simp only [List.mem_cons, List.mem_append] at hp ⊢
      rcases hp with h | h | h | (h | h) | h <;> simp [h]
    · rcases List.mem_append.mp hp with hp | hp
      · rcases List.mem_cons.mp hp with rfl | hp
        · exact ⟨hne _ (.head _), hne _ (.tail _ (.head _)), hne _ (.tail _ (.tail _ (.head _)))⟩
        · exact LCg.Off3.mem off p (List.mem_append_left _ hp)
      · exact LCg.Off3.mem off p (List.mem_append_right _ hp)
    · rw [List.take_add_one, hrow, List.map_append]
      exact hR.snoc (t := [(D', listOf us.toArray n)]) (.head _) hds hA1
    · exact Apart.cons (fun q hq => hne q (.tail _ (.tail _ (.tail _ (List.mem_append_right _ hq))))) ha
  · rintro ys _ ⟨tl, rfl, hyl, hR, ha⟩
    rw [List.take_of_length_le (Nat.le_refl _)] at hR
    exact fin g ys tl (by rw [hyl]) hR ha
theorem rowsA_mat {D : Addr} {ys : List Value} {tl nw : List (Addr × Obj)} {N : List (List Int)} (R : RowsA tl ys N) (ha : Apart tl nw) (ho : LCg.Off1 D (tl ++ nw)) :
    ∃ as, MatA ((D, LCg.lst ys) :: tl) D as N ∧ Apart ((D, LCg.lst ys) :: tl) nw := by
  obtain ⟨as, rfl, nd, hl, hr⟩ := R
  refine ⟨as, ⟨⟨_, .head _⟩, fun a h => ?_, nd, hl, fun k a row e1 e2 => ?_⟩, Apart.cons (fun q hq => off1_at ho q (List.mem_append_right _ hq)) ha⟩
  · obtain ⟨k, hk, rfl⟩ := List.getElem_of_mem h
    obtain ⟨us', n', h1, _⟩ := hr k _ _ (List.getElem?_eq_getElem hk) (List.getElem?_eq_getElem (hl ▸ hk))
    exact Ne.symm (off1_at ho _ (List.mem_append_left _ h1))
  · obtain ⟨us', n', h1, h2⟩ := hr k a row e1 e2
    exact ⟨us', n', .tail _ h1, h2⟩
end
end
theorem off_L17 : True := by
  w_top off
  k_with_none
  (k_with "znz in" => first | with_reducible assumption | with_reducible exact List.mem_cons_self | ((with_reducible refine List.mem_cons_of_mem _ ?_); walk_at "nz in") | ((with_reducible refine List.mem_append_right _ ?_); walk_at "nz in") | ((with_reducible refine List.mem_append_left _ ?_); walk_at "nz in"))
  (k_with "znz hA" => exact rfl)
  (k_with "znz room" => (first | exact room1 (by with_reducible assumption) rfl | exact room2 (by with_reducible assumption) rfl | omega | ((try simp only [depth_under_make, depth_under_kw, depth_in1, depth_deeper]); (try dsimp only [nzA]); (try simp only [recursionLimit]); omega)))
  (k_with "znz units" => (first | exact room1 (by with_reducible assumption) rfl | exact room2 (by with_reducible assumption) rfl | omega | ((try simp only [units_in1, units_deeper, Around.mark_units]); (try dsimp only [nzA]); (try simp only [cLine]); omega)))
  (k_with "znz enter" => first | (refine' code_def ?q5k1 ?q5k2 ?q5k3 ?q5k4 ?q5k5 ?q5kA ?q5kF ?q5kK ?q5k6 ?q5k7 ?q5k8 ?q5k9 ?q5kB ?_ ?q5c2 ?q5c3 ?q5c4 ?q5c5; (case q5kA => walk_at "nz hA"); (case q5kF | q5kK => first | assumption | exact rfl); (case q5k1 | q5k2 | q5k3 | q5k4 | q5k5 => k_asm); (case q5k6 | q5k7 => k_is); (case q5k8 => walk_at "nz room"); (case q5k9 => exact BindsTo.of_eq rfl); (case q5c5 => decide); (case q5kB => exact locs rfl); (case q5c2 | q5c3 | q5c4 => exact rfl); k_whole; intro gpq5 Lpq5 hpq5 FGpq5 Fpq5 Npq5 Bpq5 Xpq5 Tpq5; (try dsimp only); (try k_lift Bpq5); (try k_fold); with_reducible refine anyE fun EE => ?_) | (refine' code_defC ?q5k1 ?q5k2 ?q5k3 ?q5k4 ?q5k5 ?q5kA ?q5kF ?q5kK ?q5k6 ?q5k7 ?q5k8 ?q5k9 ?q5kB ?q5kD ?_ ?q5c2 ?q5c3 ?q5c4; (case q5kA => walk_at "nz hA"); (case q5kF | q5kK => first | assumption | exact rfl); (case q5k1 | q5k2 | q5k3 | q5k4 | q5k5 => k_asm); (case q5k6 | q5k7 => k_is); (case q5k8 => walk_at "nz room"); (case q5k9 => exact BindsTo.of_eq rfl); (case q5kB => exact rfl); (case q5kD => decide +kernel); (case q5c2 | q5c3 | q5c4 => exact rfl); k_whole; intro gpq5 Lpq5 hpq5 tkpq5 cellspq5 FGpq5 Fpq5 Npq5 Ypq5 Bpq5 Xpq5 Tpq5 l1q5; (try k_lt l1q5); k_cells Ypq5; (try simp only [List.cons_append, List.nil_append] at Npq5); (try dsimp only); (try k_lift Bpq5); (try k_fold); with_reducible refine anyE fun EE => ?_))
  (k_with "zeval ListComp" => (k_here; refine Hold.go ?_))
  (k_with "zexec Assign cons ListComp" => (k_here; refine Hold.go ?_))
  (k_with "zcall ref" => (k_here; refine Hold.go ?_))
  (k_with "zexec For" => (k_here; refine Hold.go ?_))
  (k_with "znz fit" => (first | with_reducible assumption | exact fit_row (by with_reducible assumption) (by with_reducible assumption) | exact lt_len (by with_reducible assumption) (by with_reducible assumption) | omega | ((try simp only [List.length_map, List.length_cons, List.length_nil, List.size_toArray]); omega)))
  (k_with "zcall builtin:len" => (k_here; (with_reducible show wpAny _ _ (call (Value.builtin "len") [Value.ref _]) _ _ _); k_dflt (refine' nz_len ?q11N ?q11m ?q11f ?_; (case q11N => k_asm); (case q11m => k_mem); (case q11f => walk_at "nz fit"); k_whole)))
  (k_with "zsubscriptTail" => (k_here; (with_reducible show wpAny _ _ (subscriptTail _ _ (Value.ref _) (Value.int _ _)) _ _ _); k_dflt (refine' nz_item ?q12N ?q12m ?q12a ?q12b ?q12f ?_ ?q12k; (case q12N => k_asm); (case q12m => k_mem); (case q12a | q12b | q12f => walk_at "nz fit"); (case q12k => with_unfolding_all rfl); k_whole); intro vpq12 hvpq12))
  (k_with "zexecs cons" => (k_here; first | k_gentoks | (k_made; walk_at "execs cons") | (with_reducible refine cut_cons fun qk hqk => ?_)))
  (k_with "zQEnd" => (refine' behind_go ?q14h ?_; (case q14h => with_reducible assumption); dsimp only))
  (k_with "zeval Name" => (k_here; (with_reducible show wpAny _ _ (eval (Expr.Name _ _) (compEnvC _ _ _ _)) _ _ _); k_dflt (first | refine LCgL.ld_own (by k_asm) (by k_mem) (by assumption) (by assumption) ?_ | refine kcf_cell (by k_asm) (by rfl) (by k_mem) (by k_asm) ?_ | refine LCgL.ld_global (by k_asm) (by k_asm) (by k_asm) (by k_is) ?_ | refine LCgL.ld_built (by k_asm) (by k_asm) (by k_asm) (by k_is) (by boot_by_name) (by decide) ?_ | refine Hold.go ?_)))
  (k_with "zCompEnd" => (k_here; refine Hold.go ?_))
  (k_with "zCompSrc" => (k_here; refine Hold.go ?_))
  (k_with "znz sub" => first | with_reducible assumption | exact fun _ h => h | (intro p9q22 hp9q22; walk_at "nz in") | (intro p9q22 hp9q22; k_mem))
  (k_with "znz item" => (k_here; (with_reducible show wpAny _ _ (subscriptTail _ _ (Value.ref _) (Value.int _ _)) _ _ _); k_dflt (first | (refine' mat_item ?q23N ?q23m ?q23s ?q23a ?q23b ?q23f ?_ ?q23k; (case q23m => with_reducible assumption); (case q23N => k_asm); (case q23s => walk_at "nz sub"); (case q23a | q23b | q23f => walk_at "nz fit"); (case q23k => with_unfolding_all rfl); k_whole; intro bpq23 rowpq23 hrowpq23 hbrpq23; (try (have hlpq23 := Mat.getRow (by with_reducible assumption) hrowpq23))) | (refine' row_item ?q23N ?q23m ?q23s ?q23a ?q23b ?q23f ?_ ?q23k; (case q23m => with_reducible assumption); (case q23N => k_asm); (case q23s => walk_at "nz sub"); (case q23a | q23b | q23f => walk_at "nz fit"); (case q23k => with_unfolding_all rfl); k_whole; intro ipq23 tpq23 hipq23))))
  (k_with "zsubscriptTail" => walk_at "nz item")
  (k_with "zcall builtin:len" => (k_here; (with_reducible show wpAny _ _ (call (Value.builtin "len") [Value.ref _]) _ _ _); k_dflt (first | (refine' mat_len ?q25N ?q25m ?q25s ?q25f ?_; (case q25m => with_reducible assumption); (case q25N => k_asm); (case q25s => walk_at "nz sub"); (case q25f => walk_at "nz fit"); k_whole) | (refine' row_len ?q25N ?q25m ?q25s ?q25f ?_; (case q25m => with_reducible assumption); (case q25N => k_asm); (case q25s => walk_at "nz sub"); (case q25f => walk_at "nz fit"); k_whole))))
  (k_with "zcompareOp Eq ref ref" => (k_here; k_dflt (refine' mat_eq ?q26N ?q26a ?q26b ?q26c ?q26d ?q26u ?_; (case q26a | q26c => with_reducible assumption); (case q26N => k_asm); (case q26b | q26d => walk_at "nz sub"); (case q26u => walk_at "nz units"); k_whole)))
  (k_with "zcompareOp NotEq ref ref" => (k_here; k_dflt (refine' mat_ne ?q27N ?q27a ?q27b ?q27c ?q27d ?q27u ?_; (case q27a | q27c => with_reducible assumption); (case q27N => k_asm); (case q27b | q27d => walk_at "nz sub"); (case q27u => walk_at "nz units"); k_whole)))
  (k_with "zcall type:list" => (k_here; (with_reducible show wpAny _ _ (call (Value.type _) [Value.ref _]) _ _ _); k_dflt (refine' row_copy ?q29F ?q29N ?q29m ?q29s ?q29f ?_; (case q29m => with_reducible assumption); (case q29F | q29N => k_asm); (case q29s => walk_at "nz sub"); (case q29f => walk_at "nz fit"); k_whole); intro Dpq29 opq29 hpq29 Fpq29 Npq29 l1pq29 hDpq29; (have nzqpq29 := l1pq29); (k_lt l1pq29); (try k_sweep); (try dsimp only)))
  (k_with "zsubscriptTail Name Slice ref ref" => (k_here; (with_reducible show wpAny _ _ (subscriptTail _ (PySem.Expr.Slice none none (some _) _) (Value.ref _) (Value.ref _)) _ _ _); k_dflt (first | (refine' row_rev ?q30F ?q30N ?q30m ?q30s ?q30f ?q30k ?_ ?q30e ?q30t; (case q30m => with_reducible assumption); (case q30F | q30N => k_asm); (case q30s => walk_at "nz sub"); (case q30f => walk_at "nz fit"); (case q30k => exact IsPart.int _ _); (case q30e => with_unfolding_all rfl); (case q30t => kmk_pure)) | (refine' mat_rev ?q30F ?q30N ?q30m ?q30s ?q30f ?q30k ?_ ?q30e ?q30t; (case q30m => with_reducible assumption); (case q30F | q30N => k_asm); (case q30s => walk_at "nz sub"); (case q30f => walk_at "nz fit"); (case q30k => exact IsPart.int _ _); (case q30e => with_unfolding_all rfl); (case q30t => kmk_pure))); intro Dpq30 opq30 hpq30 Fpq30 Npq30 l1pq30 hDpq30; (have nzqpq30 := l1pq30); (k_lt l1pq30); (try k_sweep); (try dsimp only)))
  (k_with "zEltEnd" => (k_here; refine Hold.go ?_))
  (k_with "zTurnC" => (k_here; refine Hold.go ?_))
  (k_with "zpyIter ref" => (k_here; refine Hold.go ?_))
  (k_with "zTurnU" => (k_here; refine Hold.go ?_))
  (k_with "zexec For Name Call cons nil" => (k_here; k_dflt (refine wpAny_For ?_)))
  (k_with "zexec For" => (k_here; k_dflt (refine wpAny_For ?_)))
  (k_with "zcompareOp Eq ref ref" => (k_here; k_dflt (refine' mat_eqNil ?q40N ?q40a ?q40b ?q40c ?q40u ?_; (case q40a => with_reducible assumption); (case q40N => k_asm); (case q40b => walk_at "nz sub"); (case q40c => k_mem); (case q40u => walk_at "nz units"); k_whole)))
  (k_with "zcompareOp Eq ref ref" => (k_here; k_dflt (refine' mat_neNil ?q41N ?q41a ?q41b ?q41e ?q41c ?q41u ?_; (case q41a | q41e => with_reducible assumption); (case q41N => k_asm); (case q41b => walk_at "nz sub"); (case q41c => k_mem); (case q41u => walk_at "nz units"); k_whole)))
  (k_with "zcompareOp Eq ref ref" => (k_here; k_dflt (refine' mat_eq ?q42N ?q42a ?q42b ?q42c ?q42d ?q42u ?_; (case q42a | q42c => with_reducible assumption); (case q42N => k_asm); (case q42b | q42d => walk_at "nz sub"); (case q42u => walk_at "nz units"); k_whole)))
  (k_with "zexec Raise" => (k_here; refine Hold.go ?_))
  (k_with "znz dec" => ((try simp only [beq_iff_eq, bne_iff_ne, decide_eq_true_eq, ne_eq, Bool.not_eq_true', Bool.not_eq_true]); omega))
  (k_with "zite" => (k_here; k_dflt (first | refine ite_pos (by walk_at "nz dec") ?_ | refine ite_neg (by walk_at "nz dec") ?_)))
  (k_with "znz subs" => first | walk_at "nz item" | (k_here; k_dflt (first | ((with_reducible show wpAny _ _ (subscriptTail _ _ (Value.ref _) (Value.int 0 _)) _ _ _); refine' nz_pair0 ?q48N ?q48m ?_ ?q48k; (case q48N => k_asm); (case q48m => k_mem); (case q48k => with_unfolding_all rfl); k_whole) | ((with_reducible show wpAny _ _ (subscriptTail _ _ (Value.ref _) (Value.int 1 _)) _ _ _); refine' nz_pair1 ?q48N ?q48m ?_ ?q48k; (case q48N => k_asm); (case q48m => k_mem); (case q48k => with_unfolding_all rfl); k_whole))))
  (k_with "zsubscriptTail Name" => walk_at "nz subs")
  (k_with "zsubscriptTail Subscript" => walk_at "nz subs")
  (k_with "zSrcK" => (k_here; refine Hold.go ?_))
  (k_with "zgetAttr ref" => (k_here; k_dflt (first | ((with_reducible show wpAny _ _ (getAttr (Value.ref _) (Str.ofString "rows") true) _ _ _); refine' pl_rows ?q60F ?q60X ?q60N ?q60hp ?q60s ?_; (case q60hp => with_reducible assumption); (case q60F | q60X | q60N => k_asm); (case q60s => walk_at "nz sub"); k_whole) | ((with_reducible show wpAny _ _ (getAttr (Value.ref _) (Str.ofString "width") true) _ _ _); refine' pl_width ?q60F ?q60X ?q60N ?q60hp ?q60s ?_; (case q60hp => with_reducible assumption); (case q60F | q60X | q60N => k_asm); (case q60s => walk_at "nz sub"); k_whole; intro wtpq60) | ((with_reducible show wpAny _ _ (getAttr (Value.ref _) (Str.ofString "height") true) _ _ _); refine' pl_height ?q60F ?q60X ?q60N ?q60hp ?q60s ?_; (case q60hp => with_reducible assumption); (case q60F | q60X | q60N => k_asm); (case q60s => walk_at "nz sub"); k_whole; intro wtpq60)); (try dsimp only)))
  (k_with "zexec Raise some none" => (k_here; refine Hold.go ?_))
  (k_with "zRaiseEnd" => (k_here; refine Hold.go ?_))
  (k_with "zTurnZ" => (k_here; refine Hold.go ?_))
  (k_with "zEltRow" => (k_here; refine Hold.go ?_))
  (k_with "zcall ref" => (k_here; k_dflt (refine' plane_t ?q79B ?q79F ?q79X ?q79T ?q79hf ?q79hk ?q79N ?q79hd ?q79hu ?_; (case q79B | q79F | q79X | q79T => k_asm); (case q79hf | q79hk => first | assumption | exact rfl); (case q79N => k_asm); (case q79hd => walk_at "nz room"); (case q79hu => walk_at "nz units"); k_whole); intro xpq79 tlpq79 hpq79 tkpq79 hxpq79 hapq79 Fpq79 Npq79; (try k_sweep); (try dsimp only)))
  (k_with "zsetItem ref int" => (k_here; refine Hold.go ?_))
  (k_with "zsubscriptTail Attribute" => (k_here; (with_reducible show wpAny _ _ (subscriptTail _ _ (Value.ref _) (Value.int _ _)) _ _ _); k_dflt (refine' mat_item2 ?q81N ?q81m ?q81s ?q81a ?q81b ?q81f ?_ ?q81k; (case q81m => with_reducible assumption); (case q81N => k_asm); (case q81s => walk_at "nz sub"); (case q81a | q81b | q81f => walk_at "nz fit"); (case q81k => with_unfolding_all rfl); k_whole; intro bpq81 rowpq81 hbbpq81 hrowpq81 hbrpq81; (try (have hlpq81 := Mat.getRow (by with_reducible assumption) hrowpq81)))))
  trivial
section
variable {w : World} {mean : ExcName → Option Value} {mg mb : Str → Option Value} {A₀ : Around} {dp un : Nat} {gd : Option (List Code)} {env : Env} {outer : List Env} {base h₀ : Heap} {L : Addr} {m : Str → Option Value} {s : Shared} {R : Result → Shared → Prop} {news : List (Addr × Obj)}
  (B : Below A₀ base outer h₀) (F : Fr h₀ L s.heap m) (X : (Mine.hd.heap_39 w.params).In h₀) (T : TopH mean mg mb h₀)
  (hf : env.frame = some L) (hk : env.scope.kind = .function)
include B F X T hf hk

theorem plane_of2_t {r : Addr} {M : List (List Int)} {W H : Int} {n1 : List (Addr × Obj)} (N : News h₀ L s.heap news) (hM : DatIn n1 (.ref r) (matD M)) (hM0 : ∀ p ∈ n1, p ∈ news) (hMat : Mat M W H) (hd : dp + 4 ≤ 400) (hu : un + 80 ≤ 1000)
    (ret : ∀ (x' r' : Addr) as tl h' tk', PlIn tl x' W H r' → MatA tl r' as M → Apart tl news → Fr h₀ L h' m → News h₀ L h' (tl ++ news) → R (.ok (.ret (.ref x'))) { s with heap := h', toks := tk' }) :
    codeAny (model PySem.Challenge.pw_nz0241_01 w) (nzA dp un gd env outer) (.call (.ref 93) ⟨[.ref r], []⟩) R s := by
  replace hM := hM.mono hM0
  obtain ⟨q1, q2, q3, q4, q5, q6⟩ := id hMat
  have hne := hMat.ne
  k_dflt (refine' code_defC ?k1 ?k2 ?k3 ?k4 ?k5 ?kA ?kF ?kK ?k6 ?k7 ?k8 ?k9 ?kB ?kD ?_ ?c2 ?c3 ?c4; (case kA => exact rfl); (case kF => first | assumption | exact rfl); (case kK => first | assumption | exact rfl); (case k1 => k_asm); (case k2 => k_asm); (case k3 => k_asm); (case k4 => k_asm); (case k5 => k_asm); (case k6 => k_is); (case k7 => k_is); (case k8 => walk_at "nz room"); (case k9 => exact BindsTo.of_eq rfl); (case kB => exact rfl); (case kD => decide +kernel); (case c2 => exact rfl); (case c3 => exact rfl); (case c4 => exact rfl); k_whole; intro g1 L1 h1 tk1 cells1 FG1 F1 N1 Y1 B1 X1 T1 l1; (try k_lt l1); obtain ⟨oc1, hE, dc1⟩ := CellsAre.one Y1; subst hE; (try simp only [List.cons_append, List.nil_append] at N1); (try dsimp only); (try k_lift B1); (try k_fold); with_reducible refine anyE fun EE => ?_)

  k_steps
  unfold Hold
  k_dflt (refine LCg.ListComp_U (F₀ := by k_asm) (by with_unfolding_all rfl) (by decide) (by rfl) (by decide) (by rfl) ?_)
  k_steps
  unfold Hold
  (rename News _ _ _ _ => N8)
  k_dflt (refine src_mat (fun _ => Dat.bool false) (by rfl) (by k_asm) N8 hM (by walk_at "nz sub") (by omega) ?_ ?_)

  · intro g2 i2 tl2 b2 row2 I2 oI2 C2 oC2 D2 oD2 m2 h2 tk3 E2 hrow2 hb2 hC2 hx2 F2 N2 off2 ne2 ha2
    have hl2 := hMat.getRow hrow2
    k_steps
    (rename (((List.length _ : Nat) : Int) = W) => hl9)
    exact Hold.out (eltEnd_bool (by k_asm) (by k_asm) (by simp [hl2, hl9]))
  · intro g2 ys2 tl2 hyl2 hds2 hap2
    intro D2 h2 tk2 F2 N2 off2
    k_steps
    k_dflt (refine any_at (bs := M.map fun _ => false) (by k_asm) (by k_asm) (by rfl) (.head _) (by rw [List.map_map]; exact hds2) ?_)
    intro h3 tk3 F3 N3
    rw [show ((M.map fun _ => false).any id) = false by simp]
    replace N3 := newsRest N3
    k_steps
    unfold Hold
    k_dflt (refine LCg.ListComp_U (F₀ := by k_asm) (by with_unfolding_all rfl) (by decide) (by rfl) (by decide) (by rfl) ?_)
    k_steps
    unfold Hold
    (rename News _ _ _ _ => N8)
    k_dflt (refine src_matA (fun row => row) (by rfl) (by k_asm) N8 hM (by walk_at "nz sub") (by omega) ?_ ?_)

    · intro g2 i2 tl2 b2 row2 I2 oI2 C2 oC2 D2 oD2 m2 h2 tk3 E2 hrow2 hb2 hC2 hx2 F2 N2 off2 ne2 ha2
      have hl2 := hMat.getRow hrow2
      k_steps
      exact Hold.out (eltRow_one (by k_asm) (by k_asm) (by assumption) (by assumption))
    · intro g2 ys2 tl2 hyl2 hds2 hap2
      intro D2 h2 tk2 F2 N2 off2
      obtain ⟨as2, hD2, hA2⟩ := rowsA_mat hds2 hap2 off2
      rw [List.map_id''] at hD2
      have hD3 := hD2.dat
      k_steps
      (rename PlIn _ _ _ _ _ => hx9)
      (rename News _ _ _ _ => N7)
      (rename Fr _ _ _ _ => F7)
      (rename Apart _ _ => ha9)
      (rename (((List.length _ : Nat) : Int) = W) => hl9)
      rw [hl9, q5] at hx9
      refine ret _ D2 as2 (_ ++ ((D2, LCg.lst ys2) :: tl2)) _ _ (hx9.mono fun p hp => List.mem_append_left _ hp) (hD2.mono fun p hp => List.mem_append_right _ hp) (Apart.app (fun p hp q hq => ha9 p hp q (.tail _ (List.mem_append_right _ (.tail _ (.tail _ hq))))) fun p hp q hq => hA2 p hp q (.tail _ (.tail _ hq))) F7 (newsSub N7 fun p hp => ?_)
      simp only [List.mem_append, List.mem_cons] at hp ⊢
      rcases hp with (h | h | h) | h <;> simp [h]

def putM (M : List (List Int)) (W H px py v : Int) : List (List Int) := if 0 ≤ px ∧ px < W ∧ 0 ≤ py ∧ py < H then M.set py.toNat ((M.getD py.toNat []).set px.toNat v) else M
theorem put_t {x : Addr} {W H px py v : Int} {tx ty tv : Tok} {r : Addr} {as : List Addr} {M : List (List Int)} {n0 n1 : List (Addr × Obj)} (N : News h₀ L s.heap news) (hp : PlIn n0 x W H r) (hp0 : ∀ p ∈ n0, p ∈ news) (hA : MatA n1 r as M) (hA0 : ∀ p ∈ n1, p ∈ news) (hMat : Mat M W H) (hd : dp + 2 ≤ 400) (hu : un + 40 ≤ 1000)
    (ret : ∀ b o' h' tk', (∃ o, (b, o) ∈ n1) → PlIn (updL b o' n0) x W H r → MatA (updL b o' n1) r as (putM M W H px py v) → Fr h₀ L h' m → News h₀ L h' (updL b o' news) → R (.ok (.ret .none)) { s with heap := h', toks := tk' }) :
    codeAny (model PySem.Challenge.pw_nz0241_01 w) (nzA dp un gd env outer) (.call (.ref 74) ⟨[.ref x, .int px tx, .int py ty, .int v tv], []⟩) R s := by
  have hpo := hp
  replace hp := hp.mono hp0
  obtain ⟨q1, q2, q3, q4, q5, q6⟩ := id hMat
  have none : ∀ h' tk', ¬ (0 ≤ px ∧ px < W ∧ 0 ≤ py ∧ py < H) → Fr h₀ L h' m → News h₀ L h' news → R (.ok (.ret .none)) { s with heap := h', toks := tk' } := by
    intro h' tk' hno F' N'
    have l0 : 0 < as.length := by have := hA.len; omega
    have l1 : 0 < M.length := by omega
    obtain ⟨us, n, h1, h2⟩ := hA.row 0 _ _ (List.getElem?_eq_getElem l0) (List.getElem?_eq_getElem l1)
    have e1 := updL_same N' (hA0 _ h1) (l := news) (fun p hp => hp)
    have e2 := updL_same N' (hA0 _ h1) (l := n1) hA0
    have e3 := updL_same N' (hA0 _ h1) (l := n0) hp0
    refine ret _ (listOf us.toArray n) h' tk' ⟨_, h1⟩ (by rw [e3]; exact hpo) ?_ F' ?_
    · rw [e2]; unfold putM; rw [if_neg hno]; exact hA
    · rw [e1]; exact N'
  k_dflt (refine' code_def ?k1 ?k2 ?k3 ?k4 ?k5 ?kA ?kF ?kK ?k6 ?k7 ?k8 ?k9 ?kB ?_ ?c2 ?c3 ?c4 ?c5; (case kA => exact rfl); (case kF => first | assumption | exact rfl); (case kK => first | assumption | exact rfl); (case k1 => k_asm); (case k2 => k_asm); (case k3 => k_asm); (case k4 => k_asm); (case k5 => k_asm); (case k6 => k_is); (case k7 => k_is); (case k8 => walk_at "nz room"); (case k9 => exact BindsTo.of_eq rfl); (case c5 => decide); (case kB => exact locs rfl); (case c2 => exact rfl); (case c3 => exact rfl); (case c4 => exact rfl); k_whole; intro g1 L1 h1 FG1 F1 N1 B1 X1 T1; (try dsimp only); (try k_lift B1); (try k_fold); with_reducible refine anyE fun EE => ?_)

  k_steps
  · unfold Hold
    (rename News _ _ _ _ => N9)
    (rename Fr _ _ _ _ => F9)
    (rename (as[_]? = some _) => hb9)
    (rename (M[_]? = some _) => hr9)
    (rename List Int => row9)
    (rename (((List.length _ : Nat) : Int) = W) => hl9)
    k_dflt (refine mat_store (y := py) (k := px) F9 N9 hA hA0 hb9 hr9 (by omega) (by omega) (by omega) ?_)
    intro o' h' hbm F' N' A'
    obtain ⟨usb, nb, hbm⟩ := hbm
    have hpl := plIn_updL (o' := o') N9 hpo hp0 (hA0 _ hbm)
    clear N9 F9
    have ep : putM M W H px py v = M.set py.toNat (List.set row9 px.toNat v) := by
      unfold putM; rw [if_pos (by omega)]; rw [List.getD_eq_getElem?_getD, hr9]; rfl
    k_steps
    (rename News _ _ _ _ => N9)
    (rename Fr _ _ _ _ => F9)
    exact ret _ o' _ _ ⟨_, hbm⟩ hpl (by rw [ep]; exact A') F9 N9
  all_goals
    (rename News _ _ _ _ => N9)
    (rename Fr _ _ _ _ => F9)
    exact none _ _ (by omega) F9 N9

end
theorem off_L18 : True := by
  w_top off
  k_with_none
  (k_with "znz in" => first | with_reducible assumption | with_reducible exact List.mem_cons_self | ((with_reducible refine List.mem_cons_of_mem _ ?_); walk_at "nz in") | ((with_reducible refine List.mem_append_right _ ?_); walk_at "nz in") | ((with_reducible refine List.mem_append_left _ ?_); walk_at "nz in"))
  (k_with "znz hA" => exact rfl)
  (k_with "znz room" => (first | exact room1 (by with_reducible assumption) rfl | exact room2 (by with_reducible assumption) rfl | omega | ((try simp only [depth_under_make, depth_under_kw, depth_in1, depth_deeper]); (try dsimp only [nzA]); (try simp only [recursionLimit]); omega)))
  (k_with "znz units" => (first | exact room1 (by with_reducible assumption) rfl | exact room2 (by with_reducible assumption) rfl | omega | ((try simp only [units_in1, units_deeper, Around.mark_units]); (try dsimp only [nzA]); (try simp only [cLine]); omega)))
  (k_with "znz enter" => first | (refine' code_def ?q5k1 ?q5k2 ?q5k3 ?q5k4 ?q5k5 ?q5kA ?q5kF ?q5kK ?q5k6 ?q5k7 ?q5k8 ?q5k9 ?q5kB ?_ ?q5c2 ?q5c3 ?q5c4 ?q5c5; (case q5kA => walk_at "nz hA"); (case q5kF | q5kK => first | assumption | exact rfl); (case q5k1 | q5k2 | q5k3 | q5k4 | q5k5 => k_asm); (case q5k6 | q5k7 => k_is); (case q5k8 => walk_at "nz room"); (case q5k9 => exact BindsTo.of_eq rfl); (case q5c5 => decide); (case q5kB => exact locs rfl); (case q5c2 | q5c3 | q5c4 => exact rfl); k_whole; intro gpq5 Lpq5 hpq5 FGpq5 Fpq5 Npq5 Bpq5 Xpq5 Tpq5; (try dsimp only); (try k_lift Bpq5); (try k_fold); with_reducible refine anyE fun EE => ?_) | (refine' code_defC ?q5k1 ?q5k2 ?q5k3 ?q5k4 ?q5k5 ?q5kA ?q5kF ?q5kK ?q5k6 ?q5k7 ?q5k8 ?q5k9 ?q5kB ?q5kD ?_ ?q5c2 ?q5c3 ?q5c4; (case q5kA => walk_at "nz hA"); (case q5kF | q5kK => first | assumption | exact rfl); (case q5k1 | q5k2 | q5k3 | q5k4 | q5k5 => k_asm); (case q5k6 | q5k7 => k_is); (case q5k8 => walk_at "nz room"); (case q5k9 => exact BindsTo.of_eq rfl); (case q5kB => exact rfl); (case q5kD => decide +kernel); (case q5c2 | q5c3 | q5c4 => exact rfl); k_whole; intro gpq5 Lpq5 hpq5 tkpq5 cellspq5 FGpq5 Fpq5 Npq5 Ypq5 Bpq5 Xpq5 Tpq5 l1q5; (try k_lt l1q5); k_cells Ypq5; (try simp only [List.cons_append, List.nil_append] at Npq5); (try dsimp only); (try k_lift Bpq5); (try k_fold); with_reducible refine anyE fun EE => ?_))
  (k_with "zeval ListComp" => (k_here; refine Hold.go ?_))
  (k_with "zexec Assign cons ListComp" => (k_here; refine Hold.go ?_))
  (k_with "zcall ref" => (k_here; refine Hold.go ?_))
  (k_with "zexec For" => (k_here; refine Hold.go ?_))
  (k_with "znz fit" => (first | with_reducible assumption | exact fit_row (by with_reducible assumption) (by with_reducible assumption) | exact lt_len (by with_reducible assumption) (by with_reducible assumption) | omega | ((try simp only [List.length_map, List.length_cons, List.length_nil, List.size_toArray]); omega)))
  (k_with "zcall builtin:len" => (k_here; (with_reducible show wpAny _ _ (call (Value.builtin "len") [Value.ref _]) _ _ _); k_dflt (refine' nz_len ?q11N ?q11m ?q11f ?_; (case q11N => k_asm); (case q11m => k_mem); (case q11f => walk_at "nz fit"); k_whole)))
  (k_with "zsubscriptTail" => (k_here; (with_reducible show wpAny _ _ (subscriptTail _ _ (Value.ref _) (Value.int _ _)) _ _ _); k_dflt (refine' nz_item ?q12N ?q12m ?q12a ?q12b ?q12f ?_ ?q12k; (case q12N => k_asm); (case q12m => k_mem); (case q12a | q12b | q12f => walk_at "nz fit"); (case q12k => with_unfolding_all rfl); k_whole); intro vpq12 hvpq12))
  (k_with "zexecs cons" => (k_here; first | k_gentoks | (k_made; walk_at "execs cons") | (with_reducible refine cut_cons fun qk hqk => ?_)))
  (k_with "zQEnd" => (refine' behind_go ?q14h ?_; (case q14h => with_reducible assumption); dsimp only))
  (k_with "zeval Name" => (k_here; (with_reducible show wpAny _ _ (eval (Expr.Name _ _) (compEnvC _ _ _ _)) _ _ _); k_dflt (first | refine LCgL.ld_own (by k_asm) (by k_mem) (by assumption) (by assumption) ?_ | refine kcf_cell (by k_asm) (by rfl) (by k_mem) (by k_asm) ?_ | refine LCgL.ld_global (by k_asm) (by k_asm) (by k_asm) (by k_is) ?_ | refine LCgL.ld_built (by k_asm) (by k_asm) (by k_asm) (by k_is) (by boot_by_name) (by decide) ?_ | refine Hold.go ?_)))
  (k_with "zCompEnd" => (k_here; refine Hold.go ?_))
  (k_with "zCompSrc" => (k_here; refine Hold.go ?_))
  (k_with "znz sub" => first | with_reducible assumption | exact fun _ h => h | (intro p9q22 hp9q22; walk_at "nz in") | (intro p9q22 hp9q22; k_mem))
  (k_with "znz item" => (k_here; (with_reducible show wpAny _ _ (subscriptTail _ _ (Value.ref _) (Value.int _ _)) _ _ _); k_dflt (first | (refine' mat_item ?q23N ?q23m ?q23s ?q23a ?q23b ?q23f ?_ ?q23k; (case q23m => with_reducible assumption); (case q23N => k_asm); (case q23s => walk_at "nz sub"); (case q23a | q23b | q23f => walk_at "nz fit"); (case q23k => with_unfolding_all rfl); k_whole; intro bpq23 rowpq23 hrowpq23 hbrpq23; (try (have hlpq23 := Mat.getRow (by with_reducible assumption) hrowpq23))) | (refine' row_item ?q23N ?q23m ?q23s ?q23a ?q23b ?q23f ?_ ?q23k; (case q23m => with_reducible assumption); (case q23N => k_asm); (case q23s => walk_at "nz sub"); (case q23a | q23b | q23f => walk_at "nz fit"); (case q23k => with_unfolding_all rfl); k_whole; intro ipq23 tpq23 hipq23))))
  (k_with "zsubscriptTail" => walk_at "nz item")
  (k_with "zcall builtin:len" => (k_here; (with_reducible show wpAny _ _ (call (Value.builtin "len") [Value.ref _]) _ _ _); k_dflt (first | (refine' mat_len ?q25N ?q25m ?q25s ?q25f ?_; (case q25m => with_reducible assumption); (case q25N => k_asm); (case q25s => walk_at "nz sub"); (case q25f => walk_at "nz fit"); k_whole) | (refine' row_len ?q25N ?q25m ?q25s ?q25f ?_; (case q25m => with_reducible assumption); (case q25N => k_asm); (case q25s => walk_at "nz sub"); (case q25f => walk_at "nz fit"); k_whole))))
  (k_with "zcompareOp Eq ref ref" => (k_here; k_dflt (refine' mat_eq ?q26N ?q26a ?q26b ?q26c ?q26d ?q26u ?_; (case q26a | q26c => with_reducible assumption); (case q26N => k_asm); (case q26b | q26d => walk_at "nz sub"); (case q26u => walk_at "nz units"); k_whole)))
  (k_with "zcompareOp NotEq ref ref" => (k_here; k_dflt (refine' mat_ne ?q27N ?q27a ?q27b ?q27c ?q27d ?q27u ?_; (case q27a | q27c => with_reducible assumption); (case q27N => k_asm); (case q27b | q27d => walk_at "nz sub"); (case q27u => walk_at "nz units"); k_whole)))
  (k_with "zcall type:list" => (k_here; (with_reducible show wpAny _ _ (call (Value.type _) [Value.ref _]) _ _ _); k_dflt (refine' row_copy ?q29F ?q29N ?q29m ?q29s ?q29f ?_; (case q29m => with_reducible assumption); (case q29F | q29N => k_asm); (case q29s => walk_at "nz sub"); (case q29f => walk_at "nz fit"); k_whole); intro Dpq29 opq29 hpq29 Fpq29 Npq29 l1pq29 hDpq29; (have nzqpq29 := l1pq29); (k_lt l1pq29); (try k_sweep); (try dsimp only)))
  (k_with "zsubscriptTail Name Slice ref ref" => (k_here; (with_reducible show wpAny _ _ (subscriptTail _ (PySem.Expr.Slice none none (some _) _) (Value.ref _) (Value.ref _)) _ _ _); k_dflt (first | (refine' row_rev ?q30F ?q30N ?q30m ?q30s ?q30f ?q30k ?_ ?q30e ?q30t; (case q30m => with_reducible assumption); (case q30F | q30N => k_asm); (case q30s => walk_at "nz sub"); (case q30f => walk_at "nz fit"); (case q30k => exact IsPart.int _ _); (case q30e => with_unfolding_all rfl); (case q30t => kmk_pure)) | (refine' mat_rev ?q30F ?q30N ?q30m ?q30s ?q30f ?q30k ?_ ?q30e ?q30t; (case q30m => with_reducible assumption); (case q30F | q30N => k_asm); (case q30s => walk_at "nz sub"); (case q30f => walk_at "nz fit"); (case q30k => exact IsPart.int _ _); (case q30e => with_unfolding_all rfl); (case q30t => kmk_pure))); intro Dpq30 opq30 hpq30 Fpq30 Npq30 l1pq30 hDpq30; (have nzqpq30 := l1pq30); (k_lt l1pq30); (try k_sweep); (try dsimp only)))
  (k_with "zEltEnd" => (k_here; refine Hold.go ?_))
  (k_with "zTurnC" => (k_here; refine Hold.go ?_))
  (k_with "zpyIter ref" => (k_here; refine Hold.go ?_))
  (k_with "zTurnU" => (k_here; refine Hold.go ?_))
  (k_with "zexec For Name Call cons nil" => (k_here; k_dflt (refine wpAny_For ?_)))
  (k_with "zexec For" => (k_here; k_dflt (refine wpAny_For ?_)))
  (k_with "zcompareOp Eq ref ref" => (k_here; k_dflt (refine' mat_eqNil ?q40N ?q40a ?q40b ?q40c ?q40u ?_; (case q40a => with_reducible assumption); (case q40N => k_asm); (case q40b => walk_at "nz sub"); (case q40c => k_mem); (case q40u => walk_at "nz units"); k_whole)))
  (k_with "zcompareOp Eq ref ref" => (k_here; k_dflt (refine' mat_neNil ?q41N ?q41a ?q41b ?q41e ?q41c ?q41u ?_; (case q41a | q41e => with_reducible assumption); (case q41N => k_asm); (case q41b => walk_at "nz sub"); (case q41c => k_mem); (case q41u => walk_at "nz units"); k_whole)))
  (k_with "zcompareOp Eq ref ref" => (k_here; k_dflt (refine' mat_eq ?q42N ?q42a ?q42b ?q42c ?q42d ?q42u ?_; (case q42a | q42c => with_reducible assumption); (case q42N => k_asm); (case q42b | q42d => walk_at "nz sub"); (case q42u => walk_at "nz units"); k_whole)))
  (k_with "zexec Raise" => (k_here; refine Hold.go ?_))
  (k_with "znz dec" => ((try simp only [beq_iff_eq, bne_iff_ne, decide_eq_true_eq, ne_eq, Bool.not_eq_true', Bool.not_eq_true]); omega))
  (k_with "zite" => (k_here; k_dflt (first | refine ite_pos (by walk_at "nz dec") ?_ | refine ite_neg (by walk_at "nz dec") ?_)))
  (k_with "znz subs" => first | walk_at "nz item" | (k_here; k_dflt (first | ((with_reducible show wpAny _ _ (subscriptTail _ _ (Value.ref _) (Value.int 0 _)) _ _ _); refine' nz_pair0 ?q48N ?q48m ?_ ?q48k; (case q48N => k_asm); (case q48m => k_mem); (case q48k => with_unfolding_all rfl); k_whole) | ((with_reducible show wpAny _ _ (subscriptTail _ _ (Value.ref _) (Value.int 1 _)) _ _ _); refine' nz_pair1 ?q48N ?q48m ?_ ?q48k; (case q48N => k_asm); (case q48m => k_mem); (case q48k => with_unfolding_all rfl); k_whole))))
  (k_with "zsubscriptTail Name" => walk_at "nz subs")
  (k_with "zsubscriptTail Subscript" => walk_at "nz subs")
  (k_with "zSrcK" => (k_here; refine Hold.go ?_))
  (k_with "zgetAttr ref" => (k_here; k_dflt (first | ((with_reducible show wpAny _ _ (getAttr (Value.ref _) (Str.ofString "rows") true) _ _ _); refine' pl_rows ?q60F ?q60X ?q60N ?q60hp ?q60s ?_; (case q60hp => with_reducible assumption); (case q60F | q60X | q60N => k_asm); (case q60s => walk_at "nz sub"); k_whole) | ((with_reducible show wpAny _ _ (getAttr (Value.ref _) (Str.ofString "width") true) _ _ _); refine' pl_width ?q60F ?q60X ?q60N ?q60hp ?q60s ?_; (case q60hp => with_reducible assumption); (case q60F | q60X | q60N => k_asm); (case q60s => walk_at "nz sub"); k_whole; intro wtpq60) | ((with_reducible show wpAny _ _ (getAttr (Value.ref _) (Str.ofString "height") true) _ _ _); refine' pl_height ?q60F ?q60X ?q60N ?q60hp ?q60s ?_; (case q60hp => with_reducible assumption); (case q60F | q60X | q60N => k_asm); (case q60s => walk_at "nz sub"); k_whole; intro wtpq60)); (try dsimp only)))
  (k_with "zexec Raise some none" => (k_here; refine Hold.go ?_))
  (k_with "zRaiseEnd" => (k_here; refine Hold.go ?_))
  (k_with "zTurnZ" => (k_here; refine Hold.go ?_))
  (k_with "zEltRow" => (k_here; refine Hold.go ?_))
  (k_with "zcall ref" => (k_here; refine wpAny_call ?_; k_dflt (refine' take_t ?q82B ?q82F ?q82X ?q82T ?q82hf ?q82hk ?q82N ?q82U ?q82hS ?q82hd ?q82hu ?q82ht ?q82ht2 ?_; (case q82B | q82F | q82X | q82T => k_asm); (case q82hf | q82hk => first | assumption | exact rfl); (case q82N => k_asm); (case q82U => k_updF); (case q82hS => assumption); (case q82hd => walk_at "nz room"); (case q82hu => walk_at "nz units"); (case q82ht | q82ht2 => omega); k_whole); intro dpq82 tdpq82 opq82 hpq82 tkpq82 hd0pq82 hd1pq82 hSpq82 Upq82 Kpq82 Fpq82 Npq82; (try dsimp only at Npq82 Upq82 Kpq82); (try k_sweep); (try dsimp only)))
  (k_with "zcall ref" => (k_here; refine wpAny_call ?_; k_dflt (refine' near_t ?q83B ?q83F ?q83X ?q83T ?q83hf ?q83hk ?q83hn ?q83N ?q83hd ?q83hu ?_; (case q83B | q83F | q83X | q83T => k_asm); (case q83hf | q83hk => first | assumption | exact rfl); (case q83N => k_asm); (case q83hn => omega); (case q83hd => walk_at "nz room"); (case q83hu => walk_at "nz units"); k_whole); intro vpq83 tpq83 hpq83 tkpq83 hvpq83 hbpq83 Fpq83 Npq83; (try (obtain ⟨hv0pq83, hv1pq83⟩ := hbpq83 (by omega))); (try k_sweep); (try dsimp only)))
  (k_with "zcall ref" => (k_here; refine wpAny_call ?_; k_dflt (refine' cut_t ?q84B ?q84F ?q84X ?q84T ?q84hf ?q84hk ?q84N ?q84hp ?q84hp0 ?q84hM ?q84hM0 ?q84hMat ?q84hw0 ?q84hw1 ?q84hh0 ?q84hh1 ?q84hd ?q84hu ?_; (case q84B | q84F | q84X | q84T => k_asm); (case q84hf | q84hk => first | assumption | exact rfl); (case q84N => k_asm); (case q84hp => with_reducible assumption); (case q84hp0 => walk_at "nz sub"); (case q84hM => with_reducible assumption); (case q84hM0 => walk_at "nz sub"); (case q84hMat => with_reducible assumption); (case q84hw0 | q84hw1 | q84hh0 | q84hh1 => omega); (case q84hd => walk_at "nz room"); (case q84hu => walk_at "nz units"); k_whole); intro xpq84 rpq84 tlpq84 hpq84 tkpq84 hppq84 hMpq84 hapq84 Fpq84 Npq84; (try k_sweep); (try dsimp only)))
  (k_with "zcall ref" => (k_here; refine wpAny_call ?_; k_dflt (refine' at_t ?q85B ?q85F ?q85X ?q85T ?q85hf ?q85hk ?q85N ?q85hp ?q85hp0 ?q85hM ?q85hM0 ?q85hMat ?q85hd ?q85hu ?_; (case q85B | q85F | q85X | q85T => k_asm); (case q85hf | q85hk => first | assumption | exact rfl); (case q85N => k_asm); (case q85hp => with_reducible assumption); (case q85hp0 => walk_at "nz sub"); (case q85hM => with_reducible assumption); (case q85hM0 => walk_at "nz sub"); (case q85hMat => with_reducible assumption); (case q85hd => walk_at "nz room"); (case q85hu => walk_at "nz units"); k_whole); intro vpq85 tpq85 hpq85 tkpq85 hvpq85 Fpq85 Npq85; (try k_sweep); (try dsimp only)))
  (k_with "zcall ref" => (k_here; refine wpAny_call ?_; k_dflt (refine' kept_t ?q86B ?q86F ?q86X ?q86T ?q86hf ?q86hk ?q86N ?q86hd ?q86hu ?_; (case q86B | q86F | q86X | q86T => k_asm); (case q86hf | q86hk => first | assumption | exact rfl); (case q86N => k_asm); (case q86hd => walk_at "nz room"); (case q86hu => walk_at "nz units"); k_whole); intro vpq86 tpq86 hpq86 tkpq86 hvpq86 hbpq86 Fpq86 Npq86; (try (obtain ⟨hv0pq86, hv1pq86⟩ := hbpq86 (by omega))); (try k_sweep); (try dsimp only)))
  (k_with "zcall ref" => (k_here; refine wpAny_call ?_; k_dflt (refine' plane_of2_t ?q87B ?q87F ?q87X ?q87T ?q87hf ?q87hk ?q87N ?q87hM ?q87hM0 ?q87hMat ?q87hd ?q87hu ?_; (case q87B | q87F | q87X | q87T => k_asm); (case q87hf | q87hk => first | assumption | exact rfl); (case q87N => k_asm); (case q87hM => with_reducible assumption); (case q87hM0 => walk_at "nz sub"); (case q87hMat => with_reducible assumption); (case q87hd => walk_at "nz room"); (case q87hu => walk_at "nz units"); k_whole); intro xpq87 rpq87 aspq87 tlpq87 hpq87 tkpq87 hppq87 hApq87 hapq87 Fpq87 Npq87; (have hAMpq87 := MatA.dat hApq87); k_dflt (obtain ⟨dxpq87, e1pq87, e2pq87, e3pq87, e4pq87, e5pq87, e6pq87, e7pq87, e8pq87, e9pq87, hxpq87, hdxpq87⟩ := id hppq87); (try k_sweep); (try dsimp only)))
  (k_with "zcall ref" => (k_here; refine wpAny_call ?_; k_dflt (refine' put_t ?q88B ?q88F ?q88X ?q88T ?q88hf ?q88hk ?q88N ?q88hp ?q88hp0 ?q88hA ?q88hA0 ?q88hMat ?q88hd ?q88hu ?_; (case q88B | q88F | q88X | q88T => k_asm); (case q88hf | q88hk => first | assumption | exact rfl); (case q88N => k_asm); (case q88hp => with_reducible assumption); (case q88hp0 => walk_at "nz sub"); (case q88hA => with_reducible assumption); (case q88hA0 => walk_at "nz sub"); (case q88hMat => with_reducible assumption); (case q88hd => walk_at "nz room"); (case q88hu => walk_at "nz units"); k_whole); intro bpq88 opq88 hpq88 tkpq88 hbmpq88 hplpq88 hApq88 Fpq88 Npq88; refine Hold.go ?_; (try k_sweep); (try dsimp only)))
  (k_with "zcompareOp NotEq ref ref" => (k_here; k_dflt (refine' mat_neSame ?q89N ?q89a ?q89b ?q89c ?q89d ?q89u ?_; (case q89a | q89c => with_reducible assumption); (case q89N => k_asm); (case q89b | q89d => walk_at "nz sub"); (case q89u => walk_at "nz units"); k_whole)))
  (k_with "zsetItem ref int" => (k_here; refine Hold.go ?_))
  (k_with "znewList" => (k_here; (with_reducible show wpAny _ _ (newList []) _ _ _); refine Hold.go ?_))
  (k_with "zeval Name" => (k_here; k_dflt (refine' nz_local ?q92F ?q92hx ?_ ?q92hL ?q92hk ?q92hl ?q92hd; (case q92F => k_asm); (case q92hl => exact rfl); (case q92hx => first | with_reducible assumption | exact if_pos rfl | (refine (if_neg (by decide)).trans ?_; first | with_reducible assumption | exact if_pos rfl | (refine (if_neg (by decide)).trans ?_; first | with_reducible assumption | exact if_pos rfl | (refine (if_neg (by decide)).trans ?_; first | with_reducible assumption | exact if_pos rfl | (refine (if_neg (by decide)).trans ?_; first | with_reducible assumption | exact if_pos rfl))))); (case q92hL | q92hk => exact rfl); (case q92hd => decide); k_whole)))
  (k_with "zexecs cons" => (k_here; exfalso; with_reducible contradiction))
  (k_with "zsubscriptTail Name Name ref int" => (k_here; refine Hold.go ?_))
  (k_with "zsubscriptTail Name Name ref int" => (k_here; (with_reducible show wpAny _ _ (subscriptTail _ _ (Value.ref _) (Value.int _ _)) _ _ _); k_dflt (refine' mat_item2 ?q95N ?q95m ?q95s ?q95a ?q95b ?q95f ?_ ?q95k; (case q95m => with_reducible assumption); (case q95N => k_asm); (case q95s => walk_at "nz sub"); (case q95a | q95b | q95f => walk_at "nz fit"); (case q95k => with_unfolding_all rfl); k_whole; intro bpq95 rowpq95 hbbpq95 hrowpq95 hbrpq95; (try (have hlpq95 := Mat.getRow (by with_reducible assumption) hrowpq95)))))
  trivial
section
variable {w : World} {mean : ExcName → Option Value} {mg mb : Str → Option Value} {A₀ : Around} {dp un : Nat} {gd : Option (List Code)} {env : Env} {outer : List Env} {base h₀ : Heap} {L : Addr} {m : Str → Option Value} {s : Shared} {R : Result → Shared → Prop} {news : List (Addr × Obj)}
  (B : Below A₀ base outer h₀) (F : Fr h₀ L s.heap m) (X : (Mine.hd.heap_39 w.params).In h₀) (T : TopH mean mg mb h₀)
  (hf : env.frame = some L) (hk : env.scope.kind = .function)
include B F X T hf hk

omit B F X T hf hk in
theorem cutM_mat {M : List (List Int)} {W H px py cw ch : Int} (h1 : 1 ≤ cw) (h2 : cw < 1000) (h3 : 1 ≤ ch) (h4 : ch < 1000) : Mat (cutM M W H px py cw.toNat ch.toNat) cw ch where
  h1 := h3
  h2 := h4
  w1 := h1
  w2 := h2
  len := by simp only [cutM, List.length_map, List.length_range]; omega
  row := by
    intro r hr
    simp only [cutM, List.mem_map] at hr
    obtain ⟨_, _, rfl⟩ := hr
    simp only [List.length_map, List.length_range]; omega
omit B F X T hf hk in
theorem cut00 {M : List (List Int)} {W H px py cw ch i : Int} {row : List Int} (h1 : 1 ≤ cw) (h3 : 1 ≤ ch) (e1 : (cutM M W H px py cw.toNat ch.toNat)[Int.toNat 0]? = some row) (e2 : row[Int.toNat 0]? = some i) : i = getM M (clampI py H) (clampI px W) := by
  obtain ⟨n, hn⟩ : ∃ n, cw.toNat = n + 1 := ⟨cw.toNat - 1, by omega⟩
  obtain ⟨k, hk⟩ : ∃ k, ch.toNat = k + 1 := ⟨ch.toNat - 1, by omega⟩
  rw [hn, hk] at e1
  have z : Int.toNat 0 = 0 := rfl
  rw [z] at e1 e2
  simp only [cutM, List.getElem?_map, List.getElem?_range (Nat.succ_pos k), Option.map_some, Option.some.injEq] at e1
  subst e1
  simp only [List.getElem?_map, List.getElem?_range (Nat.succ_pos n), Option.map_some, Option.some.injEq] at e2
  rw [← e2]
  simp
omit B F X T hf hk in
theorem newsDropT {h : Heap} {d a b : Addr × Obj} {l : List (Addr × Obj)} (N : News h₀ L h (d :: a :: b :: l)) : News h₀ L h (d :: l) := newsSub N fun p hp => by
  rcases List.mem_cons.mp hp with rfl | hp
  · exact .head _
  · exact .tail _ (.tail _ (.tail _ hp))
theorem cutRight_t {src x0 : Addr} {o : Obj} {g : Obj → List (Addr × Obj)} {W H : Int} {r : Addr} {M : List (List Int)} {n0 n1 : List (Addr × Obj)} (N : News h₀ L s.heap news) (U : UpdF src o news g) (hS : SrcOk o) (hp : PlIn n0 x0 W H r) (hp0 : ∀ p ∈ n0, p ∈ news ∧ p.1 ≠ src) (hM : DatIn n1 (.ref r) (matD M)) (hM0 : ∀ p ∈ n1, p ∈ news ∧ p.1 ≠ src) (hMat : Mat M W H)
    (hd : dp + 8 ≤ 400) (hu : un + 160 ≤ 1000)
    (ret : ∀ o' h' tk', SrcOk o' → UpdF src o' (g o') g → Kept news src (g o') → Fr h₀ L h' m → News h₀ L h' (g o') → R (.ok (.ret (.bool true))) { s with heap := h', toks := tk' }) :
    codeAny (model PySem.Challenge.pw_nz0241_01 w) (nzA dp un gd env outer) (.call (.ref 181) ⟨[.ref src, .ref x0], []⟩) R s := by
  obtain ⟨rest, hoff, N1, hin, hout, back⟩ := upd_norm N U
  replace hp : PlIn rest x0 W H r := hp.mono fun p h => hout p (hp0 p h).1 (hp0 p h).2
  replace hM : DatIn rest (.ref r) (matD M) := hM.mono fun p h => hout p (hM0 p h).1 (hM0 p h).2
  clear U N hp0 hM0
  obtain ⟨q1, q2, q3, q4, q5, q6⟩ := id hMat
  have hne := hMat.ne
  k_dflt (refine' code_defC ?k1 ?k2 ?k3 ?k4 ?k5 ?kA ?kF ?kK ?k6 ?k7 ?k8 ?k9 ?kB ?kD ?_ ?c2 ?c3 ?c4; (case kA => exact rfl); (case kF => first | assumption | exact rfl); (case kK => first | assumption | exact rfl); (case k1 => k_asm); (case k2 => k_asm); (case k3 => k_asm); (case k4 => k_asm); (case k5 => k_asm); (case k6 => k_is); (case k7 => k_is); (case k8 => walk_at "nz room"); (case k9 => exact BindsTo.of_eq rfl); (case kB => exact rfl); (case kD => decide +kernel); (case c2 => exact rfl); (case c3 => exact rfl); (case c4 => exact rfl); k_whole; intro g1 L1 h1 tk1 cells1 FG1 F1 N1 Y1 B1 X1 T1 l1; (try k_lt l1); obtain ⟨oc1, oc2, hE, dc1, dc2⟩ := CellsAre.two Y1; subst hE; (try simp only [List.cons_append, List.nil_append] at N1); (try dsimp only); (try k_lift B1); (try k_fold); with_reducible refine anyE fun EE => ?_)

  k_steps
  unfold Hold
  k_dflt (refine' newList_K ?k1 ?k2 ?_; (case k1 => k_asm); (case k2 => k_asm); k_whole)
  intro D hD FD ND lD
  k_lt lD
  k_steps
  unfold Hold
  (rename News _ _ _ _ => N9)
  (rename Fr _ _ _ _ => F9)
  obtain ⟨o4, N9, hS4⟩ : ∃ o4, News g1 L1 _ ((D, listOf #[] 0) :: (L1 + 1 + 1, oc1) :: (L1 + 1, oc2) :: (src, o4) :: rest) ∧ SrcOk o4 := ⟨_, newsDropT N9, by assumption⟩
  obtain ⟨mm, F9, hdue, px, tx, hx, py, ty, hy, cw, tcw, hw, ch, tch, hh, hr, b1, b2, b3, b4, b5, b6, b7, b8⟩ : ∃ mm, Fr g1 L1 _ mm ∧ mm (Str.ofString "due") = some (.ref D) ∧ ∃ px tx, mm (Str.ofString "x") = some (.int px tx) ∧ ∃ py ty, mm (Str.ofString "y") = some (.int py ty) ∧ ∃ cw tw, mm (Str.ofString "wide") = some (.int cw tw) ∧ ∃ ch th, mm (Str.ofString "high") = some (.int ch th) ∧
      IsRange _ _ py (py + ch) 1 _ _ _ ∧ -4 ≤ px ∧ px ≤ 4 ∧ -4 ≤ py ∧ py ≤ 4 ∧ 1 ≤ cw ∧ cw ≤ 4 ∧ 1 ≤ ch ∧ ch ≤ 4 :=
    ⟨_, F9, rfl, _, _, rfl, _, _, rfl, _, _, rfl, _, _, rfl, by assumption, by omega, by omega, by omega, by omega, by omega, by omega, by omega, by omega⟩
  obtain ⟨nb, hnb⟩ : ∃ nb, nb = (L1 + 1, oc2) :: (src, o4) :: rest := ⟨_, rfl⟩
  obtain ⟨n1', n2', n3'⟩ : (L1 + 1, oc2) ∈ nb ∧ (src, o4) ∈ nb ∧ ∀ p ∈ rest, p ∈ nb := by
    subst hnb; exact ⟨.head _, .tail _ (.head _), fun p hp => .tail _ (.tail _ hp)⟩
  have bD : ∀ p ∈ nb, @Ne Nat p.1 D ∧ @Ne Nat p.1 (L1 + 1 + 1) := by
    subst hnb; intro p hp
    have al := allLt_all l1
    simp only [List.mem_cons] at hp
    rcases hp with rfl | rfl | hp
    · constructor <;> ((try dsimp only); omega)
    · constructor <;> ((try dsimp only); omega)
    · have : @LT.lt Nat _ p.1 L1 := al p hp; constructor <;> ((try dsimp only); omega)
  rw [← hnb] at N9
  have hp' := hp.mono n3'
  have hM' := hM.mono n3'
  k_dflt (refine' for_range2 ch.toNat (fun i m' nw' => ∃ (ys : List Value) (k : Nat) (oS : Obj) (tl : List (Addr × Obj)), nw' = (D, listOf ys.toArray k) :: (L1 + 1 + 1, oS) :: (tl ++ nb) ∧ (∃ v, oS.data = .cell v) ∧ ys.length = i ∧
    DatAll tl ys ((List.range i).map fun (s : Nat) => rowD ((List.range cw.toNat).map fun (t : Nat) => getM M (clampI (py + (s : Int)) H) (clampI (px + (t : Int)) W))) ∧ Apart tl ((D, oc1) :: (L1 + 1 + 1, oc1) :: nb) ∧
    m' (Str.ofString "due") = some (.ref D) ∧ m' (Str.ofString "x") = some (.int px tx) ∧ m' (Str.ofString "y") = some (.int py ty) ∧ m' (Str.ofString "wide") = some (.int cw tcw) ∧ m' (Str.ofString "high") = some (.int ch tch)) ?hh ?hr ?h0 ?h1 ?h2 ?hn ?F ?N ?hJ ?turn ?done ?ht)
  case F => exact F9
  case N => exact N9
  case ht => exact fun _ _ => rfl
  case hJ => exact ⟨[], 0, oc1, [], rfl, ⟨_, dc1⟩, rfl, .nil, Apart.nil, hdue, hx, hy, hw, hh⟩
  case hh => exact rfl
  case hr => assumption
  case h0 => omega
  case h1 => omega
  case h2 => omega
  case hn => omega
  case turn =>
    clear N9 F9 hdue hx hy hw hh
    intro I g i k tk0 oI m₁ nw₁ h tk E' hi hk9 hJ F' N' off
    obtain ⟨ys, kk, oS, tl, rfl, ⟨vS, hvS⟩, hyl, hds, hap, hdue, hx, hy, hw, hh⟩ := hJ
    have hz9 : ys.length ≤ 16777216 := app8 hyl hi (by omega)
    have c1 : ∀ p ∈ tl ++ nb, @Ne Nat p.1 D := fun p hp => (List.mem_append.mp hp).elim (fun h => hap p h _ (.head _)) fun h => (bD p h).1
    have c2 : ∀ p ∈ tl ++ nb, @Ne Nat p.1 (L1 + 1 + 1) := fun p hp => (List.mem_append.mp hp).elim (fun h => hap p h _ (.tail _ (.head _))) fun h => (bD p h).2
    have c3 : @Ne Nat D I := off _ (.head _)
    have c4 : @Ne Nat (L1 + 1 + 1) I := off _ (.tail _ (.head _))
    have c3' := Ne.symm c3
    have c4' := Ne.symm c4
    k_steps
    (rename (_ = clampI _ H) => hcl9)
    (rename (M[_]? = some _) => hrow9)
    unfold Hold
    k_dflt (refine LCg.ListComp_U (F₀ := by k_asm) (by with_unfolding_all rfl) (by decide) (by rfl) (by decide) (by rfl) ?_)
    k_steps
    unfold Hold
    (rename News _ _ _ _ => N8)
    k_dflt (refine src_range2 (fun t => .int (getM M (clampI (py + (i : Int)) H) (clampI (px + (t : Int)) W))) cw.toNat (by rfl) (by k_asm) N8 (by assumption) (by omega) (by omega) (by omega) (by omega) ?_ ?_)

    · intro g2 i2 tl2 k2 tk2 I2 oI2 C2 oC2 D2 oD2 m2 h2 tk3 E2 hi2 hk2 hC2 hx2 F2 N2 off2 ne2 ha2
      k_steps
      (rename (_ = clampI _ W) => hcw9)
      (rename ((_ : List Int)[Int.toNat _]? = some (_ : Int)) => hi9)
      exact Hold.out (eltEnd_int (by k_asm) (by k_asm) (by rw [← hk9, ← hk2, ← hcl9, ← hcw9]; exact getM_of hrow9 hi9))
    · intro g2 ys2 tl2 hyl2 hds2 hap2
      intro D2 h2 tk2 F2 N2 off2
      have q1 : @Ne Nat D2 I := off1_at off2 (I, oI) (List.mem_append_right _ (.head _))
      have q2 : @Ne Nat D2 D := off1_at off2 _ (List.mem_append_right _ (.tail _ (.head _)))
      have q3 : @Ne Nat D2 (L1 + 1 + 1) := off1_at off2 _ (List.mem_append_right _ (.tail _ (.tail _ (.head _))))
      have q4 : ∀ p ∈ tl ++ nb, @Ne Nat D2 p.1 := fun p hp => off1_at off2 p (List.mem_append_right _ (.tail _ (.tail _ (.tail _ hp))))
      replace N2 := newsDrop N2
      k_steps
      (rename News _ _ _ _ => N7)
      (rename Fr _ _ _ _ => F7)
      rw [List.push_toArray] at N7
      obtain ⟨oS9, N6, dS9⟩ : ∃ o9, News g1 L1 _ ((D2, LCg.lst ys2) :: (I, oI) :: (D, listOf (ys ++ [Value.ref D2]).toArray (kk + 1)) :: (L1 + 1 + 1, o9) :: (tl ++ nb)) ∧ ∃ v, o9.data = .cell v := ⟨_, N7, _, by assumption⟩
      refine turnU_done F7 N6 ((D, listOf (ys ++ [Value.ref D2]).toArray (kk + 1)) :: (L1 + 1 + 1, oS9) :: (((D2, LCg.lst ys2) :: tl) ++ nb)) ?_ ?_ ⟨ys ++ [Value.ref D2], kk + 1, oS9, (D2, LCg.lst ys2) :: tl, rfl, dS9, by rw [List.length_append, hyl]; rfl, ?_, ?_, (if_neg (by decide)).trans hdue, (if_neg (by decide)).trans hx, (if_neg (by decide)).trans hy, (if_neg (by decide)).trans hw, (if_neg (by decide)).trans hh⟩
      · intro p hp
        simp only [List.mem_cons, List.mem_append] at hp ⊢
        rcases hp with h | h | h | (h | h) | h <;> simp [h]
      · refine List.forall_mem_cons.mpr ⟨c3, List.forall_mem_cons.mpr ⟨c4, fun p hp => ?_⟩⟩
        rcases List.mem_append.mp hp with hp | h
        · rcases List.mem_cons.mp hp with rfl | h
          · exact q1
          · exact off p (.tail _ (.tail _ (List.mem_append_left _ h)))
        · exact off p (.tail _ (.tail _ (List.mem_append_right _ h)))
      · rw [range_map_succ]
        refine DatAll.append (datAll_up hds fun p hp => .tail _ hp) (.cons (DatIn.list (.head _) ?_) .nil)
        exact datAll_free (nw := tl2) (by rw [List.map_map]; exact hds2)
      · refine Apart.cons (List.forall_mem_cons.mpr ⟨q2, List.forall_mem_cons.mpr ⟨q3, fun q hq => q4 q (List.mem_append_right _ hq)⟩⟩) hap
  case done =>
    intro g2 m₂ nw' h2 tk2 hJ F2 N2
    obtain ⟨ys, kk, oS, tl, rfl, ⟨vS, hvS⟩, hyl, hds, hap, hdue, hx, hy, hw, hh⟩ := hJ
    have hdD : DatIn ((D, listOf ys.toArray kk) :: (L1 + 1 + 1, oS) :: (tl ++ nb)) (.ref D) (matD (cutM M W H px py cw.toNat ch.toNat)) := by
      refine DatIn.list (.head _) (datAll_up ?_ fun p hp => .tail _ (.tail _ (List.mem_append_left _ hp)))
      unfold cutM
      rw [List.map_map]
      exact hds
    clear hds
    obtain ⟨dx, f1, f2, f3, f4, f5, f6, f7, f8, f9, hxo, hdx⟩ := id hp'
    have hMc : Mat (cutM M W H px py cw.toNat ch.toNat) cw ch := cutM_mat (by omega) (by omega) (by omega) (by omega)
    obtain ⟨d1, d2, d3, d4, d5, d6⟩ := id hMc
    k_steps
    all_goals first | (exfalso; (rename (_ = getM M _ _) => hv9); (rename ((cutM M W H px py cw.toNat ch.toNat)[_]? = some _) => hr9); (rename ((_ : List Int)[_]? = some (_ : Int)) => hi9); (rename ((_ : Int) ≠ _) => hz9); exact hz9 (hv9.trans (cut00 (by omega) (by omega) hr9 hi9).symm)) | skip
    unfold Hold
    (rename News _ _ _ _ => N9)
    (rename Fr _ _ _ _ => F9)
    (rename PlIn (updL _ _ _) _ _ _ _ => hp9)
    (rename MatA (updL _ _ _) _ _ _ => hA9)
    (rename (∃ o : Obj, ((_, o) : Addr × Obj) ∈ _) => hbm9)
    (rename Apart _ _ => ha9)
    obtain ⟨ob, hbm9⟩ := hbm9
    rw [updL_split hbm9 ha9] at N9
    obtain ⟨tP, hp9, hA9, N9⟩ : ∃ tP, PlIn tP _ W H _ ∧ MatA tP _ _ (putM M W H px py 999) ∧ News g1 L1 _ (tP ++ _) := ⟨_, hp9, hA9, N9⟩
    have hD9 := hA9.dat
    k_steps
    unfold Hold
    k_dflt (refine LCg.Assign_ListComp_U (F₀ := by k_asm) (by rfl) (by with_unfolding_all rfl) (by with_unfolding_all rfl) (by decide) (by rfl) (by decide) (by rfl) (by rfl) (by rfl) ?_)
    k_steps
    unfold Hold
    (rename News _ _ _ _ => N8)
    k_dflt (refine src_matA (fun row => row) (by rfl) (by k_asm) N8 hM' (by walk_at "nz sub") (by omega) ?_ ?_)

    · intro g2 i2 tl2 b2 row2 I2 oI2 C2 oC2 D2 oD2 m2 h2 tk3 E2 hrow2 hb2 hC2 hx2 F2 N2 off2 ne2 ha2
      have hl2 := hMat.getRow hrow2
      k_steps
      exact Hold.out (eltRow_one (by k_asm) (by k_asm) (by assumption) (by assumption))
    · intro g2 ys2 tl2 hyl2 hds2 hap2
      intro D2 h2 tk2 F2 N2 off2
      obtain ⟨as2, hD2, hA2⟩ := rowsA_mat hds2 hap2 off2
      rw [List.map_id''] at hD2
      obtain ⟨tL, hD2, hA2, N2⟩ : ∃ tL, MatA tL D2 as2 M ∧ Apart tL _ ∧ News g1 L1 _ (tL ++ _) := ⟨_, hD2, hA2, N2⟩
      have hD3 := hD2.dat
      clear hds2 hap2 off2
      have hfin : ∀ p ∈ g o4, p ∈ nb := fun p hp => by rw [hnb]; exact .tail _ ((back o4).2.2 p hp)
      k_steps
      all_goals first | (rw [decide_eq_true (show putM M W H px py 999 = M from if_neg (by omega))]; (rename News _ _ _ _ => N9); (rename Fr _ _ _ _ => F9); exact ret o4 _ _ hS4 (back o4).1 (back o4).2.1 F9 (newsSub N9 fun p hp => by have := hfin p hp; walk_at "nz in")) | skip
      unfold Hold
      (rename News _ _ _ _ => N9)
      (rename Fr _ _ _ _ => F9)
      (rename (as2[_]? = some _) => hb9)
      (rename (M[_]? = some _) => hr9)
      (rename List Int => row9)
      (rename (((List.length _ : Nat) : Int) = W) => hl9)
      k_dflt (refine mat_store (y := py) (k := px) F9 N9 hD2 (by walk_at "nz sub") hb9 hr9 (by omega) (by omega) (by omega) ?_)
      intro o' h' hbm F' N' A'
      clear N9 F9 hD3
      obtain ⟨usb, nnb, hbm⟩ := hbm
      rw [updL_split hbm hA2] at N'
      obtain ⟨tU, A', N'⟩ : ∃ tU, MatA tU D2 as2 (M.set py.toNat (List.set row9 px.toNat 999)) ∧ News g1 L1 _ (tU ++ _) := ⟨_, A', N'⟩
      have hD4 := A'.dat
      have ep : putM M W H px py 999 = M.set py.toNat (List.set row9 px.toNat 999) := by
        unfold putM; rw [if_pos (by omega)]; rw [List.getD_eq_getElem?_getD, hr9]; rfl
      k_steps
      rw [decide_eq_true ep]
      (rename News _ _ _ _ => N9)
      (rename Fr _ _ _ _ => F9)
      exact ret o4 _ _ hS4 (back o4).1 (back o4).2.1 F9 (newsSub N9 fun p hp => by have := hfin p hp; walk_at "nz in")

end
section
open PySem.Spec
def stepD (acc p r : Int) : Int := max (max acc (r - p)) (p - r)
theorem stepD_abs (acc p r : Int) : stepD acc p r = max acc ((p - r).natAbs : Int) := by
  unfold stepD
  simp only [Int.max_def]
  split <;> split <;> split <;> omega
theorem stepD_abs' (acc p r : Int) : stepD acc p r = max acc ((r - p).natAbs : Int) := by
  unfold stepD
  simp only [Int.max_def]
  split <;> split <;> split <;> omega
def rowD2 (acc : Int) (a b : List Int) (W : Nat) : Int := (List.range W).foldl (fun acc x => stepD acc (a.getD x 0) (b.getD x 0)) acc
def dueM (M R : List (List Int)) (H W : Nat) : Int := (List.range H).foldl (fun acc y => rowD2 acc (M.getD y []) (R.getD y []) W) 0
theorem zip_range {α β : Type} {a : List α} {b : List β} {n : Nat} (x : α) (y : β) (ha : a.length = n) (hb : b.length = n) : a.zip b = (List.range n).map fun i => (a.getD i x, b.getD i y) := by
  apply List.ext_getElem
  · simp [ha, hb]
  · intro i h1 h2
    have i1 : i < a.length := by simp [ha, hb] at h1; omega
    have i2 : i < b.length := by simp [ha, hb] at h1; omega
    simp [List.getD_eq_getElem?_getD, List.getElem?_eq_getElem i1, List.getElem?_eq_getElem i2]
theorem rowDiff_eq {a b : List Int} {n : Nat} (acc : Int) (ha : a.length = n) (hb : b.length = n) : rowDiff acc a b = rowD2 acc a b n := by
  unfold rowDiff rowD2
  rw [zip_range 0 0 ha hb, List.foldl_map]
  congr 1
  funext acc x
  exact (stepD_abs _ _ _).symm
theorem rowDiff_eq' {a b : List Int} {n : Nat} (acc : Int) (ha : a.length = n) (hb : b.length = n) : rowDiff acc b a = rowD2 acc a b n := by
  unfold rowDiff rowD2
  rw [zip_range 0 0 hb ha, List.foldl_map]
  congr 1
  funext acc x
  exact (stepD_abs' _ _ _).symm
theorem foldl_congr {α β : Type} {f g : β → α → β} : ∀ {l : List α} {b : β}, (∀ b, ∀ a ∈ l, f b a = g b a) → l.foldl f b = l.foldl g b
  | [], _, _ => rfl
  | x :: l, b, h => by
    rw [List.foldl_cons, List.foldl_cons, h b x (.head _)]
    exact foldl_congr fun b a ha => h b a (.tail _ ha)
theorem mat_rowLen {M : List (List Int)} {W H : Int} (h : Mat M W H) {y : Nat} (hy : y < H.toNat) : (M.getD y []).length = W.toNat := by
  obtain ⟨row, e, hl⟩ := gN_row h hy
  simp [List.getD_eq_getElem?_getD, e, hl]
theorem diff_due {M R : List (List Int)} {W H : Int} (h : Mat M W H) (k : Mat R W H) : diffM M R = dueM M R H.toNat W.toNat := by
  have l1 := h.len
  have l2 := k.len
  unfold diffM dueM
  rw [zip_range [] [] (n := H.toNat) (by omega) (by omega), List.foldl_map]
  exact foldl_congr fun b y hy => rowDiff_eq b (mat_rowLen h (List.mem_range.mp hy)) (mat_rowLen k (List.mem_range.mp hy))
theorem diff_due' {M R : List (List Int)} {W H : Int} (h : Mat M W H) (k : Mat R W H) : diffM R M = dueM M R H.toNat W.toNat := by
  have l1 := h.len
  have l2 := k.len
  unfold diffM dueM
  rw [zip_range [] [] (n := H.toNat) (by omega) (by omega), List.foldl_map]
  exact foldl_congr fun b y hy => rowDiff_eq' b (mat_rowLen h (List.mem_range.mp hy)) (mat_rowLen k (List.mem_range.mp hy))
theorem rowDiff_ge (a b : List Int) (acc : Int) : acc ≤ rowDiff acc a b := by
  unfold rowDiff
  generalize a.zip b = l
  induction l generalizing acc with
  | nil => exact Int.le_refl _
  | cons q l ih => exact Int.le_trans (Int.le_max_left _ _) (ih _)
theorem rowDiff_zero : ∀ {a b : List Int} {acc : Int}, a.length = b.length → 0 ≤ acc → (rowDiff acc a b = 0 ↔ acc = 0 ∧ a = b)
  | [], [], acc, _, _ => by simp [rowDiff]
  | [], _ :: _, _, h, _ => by simp at h
  | _ :: _, [], _, h, _ => by simp at h
  | x :: a, y :: b, acc, h, h0 => by
    have e : rowDiff acc (x :: a) (y :: b) = rowDiff (max acc ((x - y).natAbs : Int)) a b := rfl
    have hm : 0 ≤ max acc ((x - y).natAbs : Int) := Int.le_trans h0 (Int.le_max_left _ _)
    rw [e, rowDiff_zero (by simpa using h) hm]
    constructor
    · rintro ⟨h1, rfl⟩
      have q1 := Int.le_max_left acc ((x - y).natAbs : Int)
      have q2 := Int.le_max_right acc ((x - y).natAbs : Int)
      rw [h1] at q1 q2
      have : x = y := by omega
      exact ⟨by omega, by rw [this]⟩
    · rintro ⟨rfl, h2⟩
      cases h2
      exact ⟨by simp, rfl⟩
theorem diff_zero_aux : ∀ {M R : List (List Int)} {acc : Int} {n : Nat}, M.length = R.length → (∀ r ∈ M, r.length = n) → (∀ r ∈ R, r.length = n) → 0 ≤ acc → ((M.zip R).foldl (fun acc p => rowDiff acc p.1 p.2) acc = 0 ↔ acc = 0 ∧ M = R)
  | [], [], _, _, _, _, _, _ => by simp
  | [], _ :: _, _, _, h, _, _, _ => by simp at h
  | _ :: _, [], _, _, h, _, _, _ => by simp at h
  | x :: M, y :: R, acc, n, h, h1, h2, h0 => by
    rw [List.zip_cons_cons, List.foldl_cons]
    have lx := h1 x (.head _)
    have ly := h2 y (.head _)
    rw [diff_zero_aux (n := n) (by simpa using h) (fun r hr => h1 r (.tail _ hr)) (fun r hr => h2 r (.tail _ hr)) (Int.le_trans h0 (rowDiff_ge _ _ _)), rowDiff_zero (by rw [lx, ly]) h0]
    constructor
    · rintro ⟨⟨a, b⟩, c⟩
      have b' : x = y := b
      exact ⟨a, by rw [b', c]⟩
    · rintro ⟨a, b⟩
      cases b
      exact ⟨⟨a, rfl⟩, rfl⟩
theorem diff_zero {M R : List (List Int)} {W H : Int} (h : Mat M W H) (k : Mat R W H) : diffM M R = 0 ↔ M = R := by
  have l1 := h.len
  have l2 := k.len
  unfold diffM
  rw [diff_zero_aux (n := W.toNat) (by omega) (fun r hr => by have := h.row r hr; omega) (fun r hr => by have := k.row r hr; omega) (Int.le_refl _)]
  simp
end
section
open PySem.Spec
section
variable {prog : Program} {w : World} {A : Around} {E : Value → Shared → Prop} {s : Shared} {h₀ : Heap} {L b c : Addr} {m : Str → Option Value} {news n0 : List (Addr × Obj)}
/-- row + [v] -/
theorem row_add {row : List Int} {v : Int} {t : Tok} {n : Nat} {Q : Value → Shared → Prop} (F : Fr h₀ L s.heap m) (N : News h₀ L s.heap news) (hb : DatIn n0 (.ref b) (rowD row)) (sub : ∀ p ∈ n0, p ∈ news) (hc : (c, listOf [Value.int v t].toArray n) ∈ news) (hfit : row.length < 1000000)
    (h : ∀ D o h', Fr h₀ L h' m → News h₀ L h' ((D, o) :: news) → (∀ p ∈ news, p.1 < D) → DatIn [(D, o)] (.ref D) (rowD (row ++ [v])) → Q (.ref D) { s with heap := h' }) :
    wpAny (model prog w) A (binaryOp .Add (.ref b) (.ref c)) Q E s := by
  obtain ⟨us, k, hm, hd, hl⟩ := datIn_row hb
  have ha : s.heap.IsList b us.toArray := ⟨_, (N _ (sub _ hm)).1, rfl, k, rfl⟩
  have hcc : s.heap.IsList c [Value.int v t].toArray := ⟨_, (N _ hc).1, rfl, n, rfl⟩
  refine add_lists (hsz := by rw [sizeLine_eq, List.length_singleton]; omega) F N ha hcc fun h' F' N' => ?_
  exact h _ _ h' F' N' (fun p hp => Heap.lt_size (N p hp).1) (DatIn.list (n := 0) (.head _) (datAll_int (datAll_free hd) v t))
end
/-- where no frame is outside, a turn of the frames is none -/
theorem turn_fr {h₀ h₁ h : Heap} {L : Addr} {m : Str → Option Value} (T : KtsTurn (frs []) h₀ h₁) (F : Fr h₁ L h m) : Fr h₀ L h m :=
  ⟨F.ns, fun b o e => F.keep b o (T.other b o e (fun q => nomatch q)), by rw [← T.size]; exact F.above⟩
theorem turn_news {h₀ h₁ h : Heap} {L : Addr} {news : List (Addr × Obj)} (T : KtsTurn (frs []) h₀ h₁) (N : News h₁ L h news) : News h₀ L h news := fun p hp =>
  ⟨(N p hp).1, (N p hp).2.1, by
    cases q : h₀.get? p.1 with
    | none => rfl
    | some o => have := T.other _ o q (fun q => nomatch q); rw [(N p hp).2.2] at this; cases this⟩
theorem updL_mid {b i j : Addr} {ob o' oi oj : Obj} {l k : List (Addr × Obj)} (hb : (b, ob) ∈ l) (hx : @Ne Nat b i) (hy : @Ne Nat b j) (ha : Apart l k) : updL b o' ((i, oi) :: (j, oj) :: (l ++ k)) = (i, oi) :: (j, oj) :: (updL b o' l ++ k) := by
  show (if i = b then (b, o') else (i, oi)) :: (if j = b then (b, o') else (j, oj)) :: updL b o' (l ++ k) = _
  rw [if_neg (Ne.symm hx), if_neg (Ne.symm hy), updL_split hb ha]
theorem updL_all {b d : Addr} {ob o' : Obj} {l : List (Addr × Obj)} (hb : (b, ob) ∈ l) (h : ∀ p ∈ l, @Ne Nat p.1 d) : ∀ p ∈ updL b o' l, @Ne Nat p.1 d := fun p hp => by
  obtain ⟨p', hp', rfl⟩ := List.mem_map.mp hp
  by_cases e : p'.1 = b
  · rw [if_pos e]; exact h (b, ob) hb
  · rw [if_neg e]; exact h _ hp'
theorem Mat.put {R : List (List Int)} {W H : Int} (h : Mat R W H) {y x : Nat} {row : List Int} {v : Int} (e : R[y]? = some row) : Mat (R.set y (row.set x v)) W H where
  h1 := h.h1
  h2 := h.h2
  w1 := h.w1
  w2 := h.w2
  len := by rw [List.length_set]; exact h.len
  row := by
    intro r hr
    rcases List.mem_or_eq_of_mem_set hr with hr | rfl
    · exact h.row _ hr
    · rw [List.length_set]; exact h.getRow e
end
section
open PySem.Spec
section
variable {prog : Program} {w : World} {A : Around} {E : Value → Shared → Prop} {s : Shared} {h₀ : Heap} {L : Addr} {m : Str → Option Value} {news : List (Addr × Obj)}
theorem max3_N {a b c : Int} {t u x : Tok} {Q : Value → Shared → Prop} (hh : A.handled = none) (F : Fr h₀ L s.heap m) (N : News h₀ L s.heap news)
    (h : ∀ y h' tk, Fr h₀ L h' m → News h₀ L h' news → Q (.int (max (max a b) c) y) { s with heap := h', toks := tk }) :
    wpAny (model prog w) A (call (.builtin "max") [.int a t, .int b u, .int c x]) Q E s :=
  max_three_ints hh fun h' tk hk => by
    have key := fun y => h y h' tk (F.grownK hk) (N.grown hk)
    by_cases hba : b > a
    · rw [if_pos hba]
      have e1 : max a b = b := by rw [Int.max_def]; split <;> omega
      rw [e1] at key
      by_cases hc : c > b
      · rw [if_pos hc]; have e2 : max b c = c := by rw [Int.max_def]; split <;> omega
        rw [e2] at key; exact key _
      · rw [if_neg hc]; have e2 : max b c = b := by rw [Int.max_def]; split <;> omega
        rw [e2] at key; exact key _
    · rw [if_neg hba]
      have e1 : max a b = a := by rw [Int.max_def]; split <;> omega
      rw [e1] at key
      by_cases hc : c > a
      · rw [if_pos hc]; have e2 : max a c = c := by rw [Int.max_def]; split <;> omega
        rw [e2] at key; exact key _
      · rw [if_neg hc]; have e2 : max a c = a := by rw [Int.max_def]; split <;> omega
        rw [e2] at key; exact key _
end
theorem getM_nat {M : List (List Int)} {i j : Nat} {k l : Int} (hk : k = (i : Int)) (hl : l = (j : Int)) : getM M k l = (M.getD i []).getD j 0 := by subst hk hl; rfl
theorem step_at {M R : List (List Int)} {i j : Nat} {k l a b c d acc : Int} {r1 r2 r3 r4 : List Int} (hk : k = (i : Int)) (hl : l = (j : Int)) (f1 : r1[l.toNat]? = some a) (e1 : R[k.toNat]? = some r1) (f2 : r2[l.toNat]? = some b) (e2 : M[k.toNat]? = some r2) (f3 : r3[l.toNat]? = some c) (e3 : M[k.toNat]? = some r3) (f4 : r4[l.toNat]? = some d) (e4 : R[k.toNat]? = some r4) :
    max (max acc (a - b)) (c - d) = stepD acc ((M.getD i []).getD j 0) ((R.getD i []).getD j 0) := by
  have h1 := getM_of (M := R) e1 f1
  have h2 := getM_of (M := M) e2 f2
  have h3 := getM_of (M := M) e3 f3
  have h4 := getM_of (M := R) e4 f4
  rw [getM_nat hk hl] at h1 h2 h3 h4
  rw [h1, h2, h3, h4]
  rfl
theorem due_at {M R : List (List Int)} {i j : Nat} {k l a b c d acc : Int} {y : Tok} {r1 r2 r3 r4 : List Int} (hk : k = (i : Int)) (hl : l = (j : Int)) (f1 : r1[l.toNat]? = some a) (e1 : R[k.toNat]? = some r1) (f2 : r2[l.toNat]? = some b) (e2 : M[k.toNat]? = some r2) (f3 : r3[l.toNat]? = some c) (e3 : M[k.toNat]? = some r3) (f4 : r4[l.toNat]? = some d) (e4 : R[k.toNat]? = some r4) :
    some (Value.int (max (max acc (a - b)) (c - d)) y) = some (Value.int (stepD acc ((M.getD i []).getD j 0) ((R.getD i []).getD j 0)) y) := by
  rw [step_at hk hl f1 e1 f2 e2 f3 e3 f4 e4]
theorem foldl_range_succ {β : Type} {f : β → Nat → β} {b : β} {n : Nat} : (List.range (n + 1)).foldl f b = f ((List.range n).foldl f b) n := by
  rw [List.range_succ, List.foldl_append]; rfl
end
theorem off_L19 : True := by
  w_top off
  k_with_none
  (k_with "znz in" => first | with_reducible assumption | with_reducible exact List.mem_cons_self | ((with_reducible refine List.mem_cons_of_mem _ ?_); walk_at "nz in") | ((with_reducible refine List.mem_append_right _ ?_); walk_at "nz in") | ((with_reducible refine List.mem_append_left _ ?_); walk_at "nz in"))
  (k_with "znz hA" => exact rfl)
  (k_with "znz room" => (first | exact room1 (by with_reducible assumption) rfl | exact room2 (by with_reducible assumption) rfl | omega | ((try simp only [depth_under_make, depth_under_kw, depth_in1, depth_deeper]); (try dsimp only [nzA]); (try simp only [recursionLimit]); omega)))
  (k_with "znz units" => (first | exact room1 (by with_reducible assumption) rfl | exact room2 (by with_reducible assumption) rfl | omega | ((try simp only [units_in1, units_deeper, Around.mark_units]); (try dsimp only [nzA]); (try simp only [cLine]); omega)))
  (k_with "znz enter" => first | (refine' code_def ?q5k1 ?q5k2 ?q5k3 ?q5k4 ?q5k5 ?q5kA ?q5kF ?q5kK ?q5k6 ?q5k7 ?q5k8 ?q5k9 ?q5kB ?_ ?q5c2 ?q5c3 ?q5c4 ?q5c5; (case q5kA => walk_at "nz hA"); (case q5kF | q5kK => first | assumption | exact rfl); (case q5k1 | q5k2 | q5k3 | q5k4 | q5k5 => k_asm); (case q5k6 | q5k7 => k_is); (case q5k8 => walk_at "nz room"); (case q5k9 => exact BindsTo.of_eq rfl); (case q5c5 => decide); (case q5kB => exact locs rfl); (case q5c2 | q5c3 | q5c4 => exact rfl); k_whole; intro gpq5 Lpq5 hpq5 FGpq5 Fpq5 Npq5 Bpq5 Xpq5 Tpq5; (try dsimp only); (try k_lift Bpq5); (try k_fold); with_reducible refine anyE fun EE => ?_) | (refine' code_defC ?q5k1 ?q5k2 ?q5k3 ?q5k4 ?q5k5 ?q5kA ?q5kF ?q5kK ?q5k6 ?q5k7 ?q5k8 ?q5k9 ?q5kB ?q5kD ?_ ?q5c2 ?q5c3 ?q5c4; (case q5kA => walk_at "nz hA"); (case q5kF | q5kK => first | assumption | exact rfl); (case q5k1 | q5k2 | q5k3 | q5k4 | q5k5 => k_asm); (case q5k6 | q5k7 => k_is); (case q5k8 => walk_at "nz room"); (case q5k9 => exact BindsTo.of_eq rfl); (case q5kB => exact rfl); (case q5kD => decide +kernel); (case q5c2 | q5c3 | q5c4 => exact rfl); k_whole; intro gpq5 Lpq5 hpq5 tkpq5 cellspq5 FGpq5 Fpq5 Npq5 Ypq5 Bpq5 Xpq5 Tpq5 l1q5; (try k_lt l1q5); k_cells Ypq5; (try simp only [List.cons_append, List.nil_append] at Npq5); (try dsimp only); (try k_lift Bpq5); (try k_fold); with_reducible refine anyE fun EE => ?_))
  (k_with "zeval ListComp" => (k_here; refine Hold.go ?_))
  (k_with "zexec Assign cons ListComp" => (k_here; refine Hold.go ?_))
  (k_with "zcall ref" => (k_here; refine Hold.go ?_))
  (k_with "zexec For" => (k_here; refine Hold.go ?_))
  (k_with "znz fit" => (first | with_reducible assumption | exact fit_row (by with_reducible assumption) (by with_reducible assumption) | exact lt_len (by with_reducible assumption) (by with_reducible assumption) | omega | ((try simp only [List.length_map, List.length_cons, List.length_nil, List.size_toArray]); omega)))
  (k_with "zcall builtin:len" => (k_here; (with_reducible show wpAny _ _ (call (Value.builtin "len") [Value.ref _]) _ _ _); k_dflt (refine' nz_len ?q11N ?q11m ?q11f ?_; (case q11N => k_asm); (case q11m => k_mem); (case q11f => walk_at "nz fit"); k_whole)))
  (k_with "zsubscriptTail" => (k_here; (with_reducible show wpAny _ _ (subscriptTail _ _ (Value.ref _) (Value.int _ _)) _ _ _); k_dflt (refine' nz_item ?q12N ?q12m ?q12a ?q12b ?q12f ?_ ?q12k; (case q12N => k_asm); (case q12m => k_mem); (case q12a | q12b | q12f => walk_at "nz fit"); (case q12k => with_unfolding_all rfl); k_whole); intro vpq12 hvpq12))
  (k_with "zexecs cons" => (k_here; first | k_gentoks | (k_made; walk_at "execs cons") | (with_reducible refine cut_cons fun qk hqk => ?_)))
  (k_with "zQEnd" => (refine' behind_go ?q14h ?_; (case q14h => with_reducible assumption); dsimp only))
  (k_with "zeval Name" => (k_here; (with_reducible show wpAny _ _ (eval (Expr.Name _ _) (compEnvC _ _ _ _)) _ _ _); k_dflt (first | refine LCgL.ld_own (by k_asm) (by k_mem) (by assumption) (by assumption) ?_ | refine kcf_cell (by k_asm) (by rfl) (by k_mem) (by k_asm) ?_ | refine LCgL.ld_global (by k_asm) (by k_asm) (by k_asm) (by k_is) ?_ | refine LCgL.ld_built (by k_asm) (by k_asm) (by k_asm) (by k_is) (by boot_by_name) (by decide) ?_ | refine Hold.go ?_)))
  (k_with "zCompEnd" => (k_here; refine Hold.go ?_))
  (k_with "zCompSrc" => (k_here; refine Hold.go ?_))
  (k_with "znz sub" => first | with_reducible assumption | exact fun _ h => h | (intro p9q22 hp9q22; walk_at "nz in") | (intro p9q22 hp9q22; k_mem))
  (k_with "znz item" => (k_here; (with_reducible show wpAny _ _ (subscriptTail _ _ (Value.ref _) (Value.int _ _)) _ _ _); k_dflt (first | (refine' mat_item ?q23N ?q23m ?q23s ?q23a ?q23b ?q23f ?_ ?q23k; (case q23m => with_reducible assumption); (case q23N => k_asm); (case q23s => walk_at "nz sub"); (case q23a | q23b | q23f => walk_at "nz fit"); (case q23k => with_unfolding_all rfl); k_whole; intro bpq23 rowpq23 hrowpq23 hbrpq23; (try (have hlpq23 := Mat.getRow (by with_reducible assumption) hrowpq23))) | (refine' row_item ?q23N ?q23m ?q23s ?q23a ?q23b ?q23f ?_ ?q23k; (case q23m => with_reducible assumption); (case q23N => k_asm); (case q23s => walk_at "nz sub"); (case q23a | q23b | q23f => walk_at "nz fit"); (case q23k => with_unfolding_all rfl); k_whole; intro ipq23 tpq23 hipq23))))
  (k_with "zsubscriptTail" => walk_at "nz item")
  (k_with "zcall builtin:len" => (k_here; (with_reducible show wpAny _ _ (call (Value.builtin "len") [Value.ref _]) _ _ _); k_dflt (first | (refine' mat_len ?q25N ?q25m ?q25s ?q25f ?_; (case q25m => with_reducible assumption); (case q25N => k_asm); (case q25s => walk_at "nz sub"); (case q25f => walk_at "nz fit"); k_whole) | (refine' row_len ?q25N ?q25m ?q25s ?q25f ?_; (case q25m => with_reducible assumption); (case q25N => k_asm); (case q25s => walk_at "nz sub"); (case q25f => walk_at "nz fit"); k_whole))))
  (k_with "zcompareOp Eq ref ref" => (k_here; k_dflt (refine' mat_eq ?q26N ?q26a ?q26b ?q26c ?q26d ?q26u ?_; (case q26a | q26c => with_reducible assumption); (case q26N => k_asm); (case q26b | q26d => walk_at "nz sub"); (case q26u => walk_at "nz units"); k_whole)))
  (k_with "zcompareOp NotEq ref ref" => (k_here; k_dflt (refine' mat_ne ?q27N ?q27a ?q27b ?q27c ?q27d ?q27u ?_; (case q27a | q27c => with_reducible assumption); (case q27N => k_asm); (case q27b | q27d => walk_at "nz sub"); (case q27u => walk_at "nz units"); k_whole)))
  (k_with "zcall type:list" => (k_here; (with_reducible show wpAny _ _ (call (Value.type _) [Value.ref _]) _ _ _); k_dflt (refine' row_copy ?q29F ?q29N ?q29m ?q29s ?q29f ?_; (case q29m => with_reducible assumption); (case q29F | q29N => k_asm); (case q29s => walk_at "nz sub"); (case q29f => walk_at "nz fit"); k_whole); intro Dpq29 opq29 hpq29 Fpq29 Npq29 l1pq29 hDpq29; (have nzqpq29 := l1pq29); (k_lt l1pq29); (try k_sweep); (try dsimp only)))
  (k_with "zsubscriptTail Name Slice ref ref" => (k_here; (with_reducible show wpAny _ _ (subscriptTail _ (PySem.Expr.Slice none none (some _) _) (Value.ref _) (Value.ref _)) _ _ _); k_dflt (first | (refine' row_rev ?q30F ?q30N ?q30m ?q30s ?q30f ?q30k ?_ ?q30e ?q30t; (case q30m => with_reducible assumption); (case q30F | q30N => k_asm); (case q30s => walk_at "nz sub"); (case q30f => walk_at "nz fit"); (case q30k => exact IsPart.int _ _); (case q30e => with_unfolding_all rfl); (case q30t => kmk_pure)) | (refine' mat_rev ?q30F ?q30N ?q30m ?q30s ?q30f ?q30k ?_ ?q30e ?q30t; (case q30m => with_reducible assumption); (case q30F | q30N => k_asm); (case q30s => walk_at "nz sub"); (case q30f => walk_at "nz fit"); (case q30k => exact IsPart.int _ _); (case q30e => with_unfolding_all rfl); (case q30t => kmk_pure))); intro Dpq30 opq30 hpq30 Fpq30 Npq30 l1pq30 hDpq30; (have nzqpq30 := l1pq30); (k_lt l1pq30); (try k_sweep); (try dsimp only)))
  (k_with "zEltEnd" => (k_here; refine Hold.go ?_))
  (k_with "zTurnC" => (k_here; refine Hold.go ?_))
  (k_with "zpyIter ref" => (k_here; refine Hold.go ?_))
  (k_with "zTurnU" => (k_here; refine Hold.go ?_))
  (k_with "zexec For Name Call cons nil" => (k_here; k_dflt (refine wpAny_For ?_)))
  (k_with "zexec For" => (k_here; k_dflt (refine wpAny_For ?_)))
  (k_with "zcompareOp Eq ref ref" => (k_here; k_dflt (refine' mat_eqNil ?q40N ?q40a ?q40b ?q40c ?q40u ?_; (case q40a => with_reducible assumption); (case q40N => k_asm); (case q40b => walk_at "nz sub"); (case q40c => k_mem); (case q40u => walk_at "nz units"); k_whole)))
  (k_with "zcompareOp Eq ref ref" => (k_here; k_dflt (refine' mat_neNil ?q41N ?q41a ?q41b ?q41e ?q41c ?q41u ?_; (case q41a | q41e => with_reducible assumption); (case q41N => k_asm); (case q41b => walk_at "nz sub"); (case q41c => k_mem); (case q41u => walk_at "nz units"); k_whole)))
  (k_with "zcompareOp Eq ref ref" => (k_here; k_dflt (refine' mat_eq ?q42N ?q42a ?q42b ?q42c ?q42d ?q42u ?_; (case q42a | q42c => with_reducible assumption); (case q42N => k_asm); (case q42b | q42d => walk_at "nz sub"); (case q42u => walk_at "nz units"); k_whole)))
  (k_with "zexec Raise" => (k_here; refine Hold.go ?_))
  (k_with "znz dec" => ((try simp only [beq_iff_eq, bne_iff_ne, decide_eq_true_eq, ne_eq, Bool.not_eq_true', Bool.not_eq_true]); omega))
  (k_with "zite" => (k_here; k_dflt (first | refine ite_pos (by walk_at "nz dec") ?_ | refine ite_neg (by walk_at "nz dec") ?_)))
  (k_with "znz subs" => first | walk_at "nz item" | (k_here; k_dflt (first | ((with_reducible show wpAny _ _ (subscriptTail _ _ (Value.ref _) (Value.int 0 _)) _ _ _); refine' nz_pair0 ?q48N ?q48m ?_ ?q48k; (case q48N => k_asm); (case q48m => k_mem); (case q48k => with_unfolding_all rfl); k_whole) | ((with_reducible show wpAny _ _ (subscriptTail _ _ (Value.ref _) (Value.int 1 _)) _ _ _); refine' nz_pair1 ?q48N ?q48m ?_ ?q48k; (case q48N => k_asm); (case q48m => k_mem); (case q48k => with_unfolding_all rfl); k_whole))))
  (k_with "zsubscriptTail Name" => walk_at "nz subs")
  (k_with "zsubscriptTail Subscript" => walk_at "nz subs")
  (k_with "zSrcK" => (k_here; refine Hold.go ?_))
  (k_with "zgetAttr ref" => (k_here; k_dflt (first | ((with_reducible show wpAny _ _ (getAttr (Value.ref _) (Str.ofString "rows") true) _ _ _); refine' pl_rows ?q60F ?q60X ?q60N ?q60hp ?q60s ?_; (case q60hp => with_reducible assumption); (case q60F | q60X | q60N => k_asm); (case q60s => walk_at "nz sub"); k_whole) | ((with_reducible show wpAny _ _ (getAttr (Value.ref _) (Str.ofString "width") true) _ _ _); refine' pl_width ?q60F ?q60X ?q60N ?q60hp ?q60s ?_; (case q60hp => with_reducible assumption); (case q60F | q60X | q60N => k_asm); (case q60s => walk_at "nz sub"); k_whole; intro wtpq60) | ((with_reducible show wpAny _ _ (getAttr (Value.ref _) (Str.ofString "height") true) _ _ _); refine' pl_height ?q60F ?q60X ?q60N ?q60hp ?q60s ?_; (case q60hp => with_reducible assumption); (case q60F | q60X | q60N => k_asm); (case q60s => walk_at "nz sub"); k_whole; intro wtpq60)); (try dsimp only)))
  (k_with "zexec Raise some none" => (k_here; refine Hold.go ?_))
  (k_with "zRaiseEnd" => (k_here; refine Hold.go ?_))
  (k_with "zTurnZ" => (k_here; refine Hold.go ?_))
  (k_with "zEltRow" => (k_here; refine Hold.go ?_))
  (k_with "zbinaryOp Add ref ref" => (k_here; (with_reducible show wpAny _ _ (binaryOp _ (Value.ref _) (Value.ref _)) _ _ _); k_dflt (refine' row_add ?q96F ?q96N ?q96b ?q96s ?q96c ?q96f ?_; (case q96b => with_reducible assumption); (case q96F | q96N => k_asm); (case q96s => walk_at "nz sub"); (case q96c => k_mem); (case q96f => walk_at "nz fit"); k_whole); intro Dpq96 opq96 hpq96 Fpq96 Npq96 l1q96 hdpq96; (have nzqpq96 := l1q96); (try (k_lt l1q96)); (try k_sweep)))
  (k_with "zcall builtin:max" => (k_here; (with_reducible show wpAny _ _ (call (Value.builtin _) [Value.int _ _, Value.int _ _, Value.int _ _]) _ _ _); k_dflt (refine' max3_N ?q97h ?q97F ?q97N ?_; (case q97h => exact rfl); (case q97F | q97N => k_asm); k_whole); intro ypq97 hpq97 tkpq97 Fpq97 Npq97))
  (k_with "zcall ref" => (k_here; refine wpAny_call ?_; k_dflt (refine' take_t ?q98B ?q98F ?q98X ?q98T ?q98hf ?q98hk ?q98N ?q98U ?q98hS ?q98hd ?q98hu ?q98ht ?q98ht2 ?_; (case q98B | q98F | q98X | q98T => k_asm); (case q98hf | q98hk => first | assumption | exact rfl); (case q98N => k_asm); (case q98U => k_updF); (case q98hS => assumption); (case q98hd => walk_at "nz room"); (case q98hu => walk_at "nz units"); (case q98ht | q98ht2 => omega); k_whole); intro dpq98 tdpq98 opq98 hpq98 tkpq98 hd0pq98 hd1pq98 hSpq98 Upq98 Kpq98 Fpq98 Npq98; (try dsimp only at Npq98 Upq98 Kpq98); (try k_sweep); (try dsimp only)))
  (k_with "zcall ref" => (k_here; k_dflt (refine' plane_t ?q99B ?q99F ?q99X ?q99T ?q99hf ?q99hk ?q99N ?q99hd ?q99hu ?_; (case q99B | q99F | q99X | q99T => k_asm); (case q99hf | q99hk => first | assumption | exact rfl); (case q99N => k_asm); (case q99hd => walk_at "nz room"); (case q99hu => walk_at "nz units"); k_whole); intro xpq99 tlpq99 hpq99 tkpq99 hxpq99 hapq99 Fpq99 Npq99; (try k_sweep); (try dsimp only)))
  (k_with "zsetItem ref int" => (k_here; refine Hold.go ?_))
  (k_with "znewList" => (k_here; (with_reducible show wpAny _ _ (newList []) _ _ _); refine Hold.go ?_))
  (k_with "zeval Name" => (k_here; k_dflt (refine' nz_local ?q102F ?q102hx ?_ ?q102hL ?q102hk ?q102hl ?q102hd; (case q102F => k_asm); (case q102hl => exact rfl); (case q102hx => first | with_reducible assumption | exact if_pos rfl | (refine (if_neg (by decide)).trans ?_; first | with_reducible assumption | exact if_pos rfl | (refine (if_neg (by decide)).trans ?_; first | with_reducible assumption | exact if_pos rfl | (refine (if_neg (by decide)).trans ?_; first | with_reducible assumption | exact if_pos rfl | (refine (if_neg (by decide)).trans ?_; first | with_reducible assumption | exact if_pos rfl))))); (case q102hL | q102hk => exact rfl); (case q102hd => decide); k_whole)))
  (k_with "zexecs cons" => (k_here; exfalso; with_reducible contradiction))
  (k_with "zsubscriptTail Name Name ref int" => (k_here; (with_reducible show wpAny _ _ (subscriptTail _ _ (Value.ref _) (Value.int _ _)) _ _ _); k_dflt (refine' mat_item2 ?q104N ?q104m ?q104s ?q104a ?q104b ?q104f ?_ ?q104k; (case q104m => with_reducible assumption); (case q104N => k_asm); (case q104s => walk_at "nz sub"); (case q104a | q104b | q104f => walk_at "nz fit"); (case q104k => with_unfolding_all rfl); k_whole; intro bpq104 rowpq104 hbbpq104 hrowpq104 hbrpq104; (try (have hlpq104 := Mat.getRow (by with_reducible assumption) hrowpq104)))))
  (k_with "zsubscriptTail Name Call ref int" => (k_here; (with_reducible show wpAny _ _ (subscriptTail _ _ (Value.ref _) (Value.int _ _)) _ _ _); k_dflt (refine' mat_item2 ?q105N ?q105m ?q105s ?q105a ?q105b ?q105f ?_ ?q105k; (case q105m => with_reducible assumption); (case q105N => k_asm); (case q105s => walk_at "nz sub"); (case q105a | q105b | q105f => walk_at "nz fit"); (case q105k => with_unfolding_all rfl); k_whole; intro bpq105 rowpq105 hbbpq105 hrowpq105 hbrpq105; (try (have hlpq105 := Mat.getRow (by with_reducible assumption) hrowpq105)))))
  (k_with "zeval Lambda" => (k_here; refine Hold.go ?_))
  trivial
section
variable {w : World} {mean : ExcName → Option Value} {mg mb : Str → Option Value} {A₀ : Around} {dp un : Nat} {gd : Option (List Code)} {env : Env} {outer : List Env} {base h₀ : Heap} {L : Addr} {m : Str → Option Value} {s : Shared} {R : Result → Shared → Prop} {news : List (Addr × Obj)}
  (B : Below A₀ base outer h₀) (F : Fr h₀ L s.heap m) (X : (Mine.hd.heap_39 w.params).In h₀) (T : TopH mean mg mb h₀)
  (hf : env.frame = some L) (hk : env.scope.kind = .function)
include B F X T hf hk

omit B F X T hf hk in
theorem newsLast4 {h₀ h : Heap} {L : Addr} {x1 x2 x3 x4 a b : Addr × Obj} {R rest : List (Addr × Obj)} (N : News h₀ L h (x1 :: x2 :: x3 :: x4 :: a :: b :: R)) (r : ∀ p ∈ rest, p ∈ R) : News h₀ L h (a :: b :: rest) := newsSub N fun p hp => by
  refine .tail _ (.tail _ (.tail _ (.tail _ ?_)))
  rcases List.mem_cons.mp hp with rfl | hp
  · exact .head _
  · rcases List.mem_cons.mp hp with rfl | hp
    · exact .tail _ (.head _)
    · exact .tail _ (.tail _ (r _ hp))
theorem apartRight_t {src x0 : Addr} {o : Obj} {W H : Int} {r : Addr} {M : List (List Int)} {rest : List (Addr × Obj)} (XB : (Mine.hd.heap_39 w.params).In base) (TB : TopH mean mg mb base) (hC : Hold (CodeHd base 185 183)) (N : News h₀ L s.heap ((src, o) :: (183, tabObj #[]) :: rest)) (hoff : ∀ p ∈ rest, p.1 ≠ src) (hoffP : ∀ p ∈ rest, p.1 ≠ 183) (hPs : @Ne Nat src 183) (hS : SrcOk o) (hp : PlIn rest x0 W H r) (hM : DatIn rest (.ref r) (matD M)) (hMat : Mat M W H)
    (hd : dp + 20 ≤ 400) (hu : un + 400 ≤ 1000)
    (ret : ∀ h₀' o' ps h' tk', SrcOk o' → KtsTurn (frs outer) h₀ h₀' → Fr h₀' L h' m → News h₀' L h' ((src, o') :: (183, tabObj ps) :: rest) → Below A₀ base outer h₀' → R (.ok (.ret (.bool true))) { s with heap := h', toks := tk' }) :
    codeAny (model PySem.Challenge.pw_nz0241_01 w) (nzA dp un gd env outer) (.call (.ref 186) ⟨[.ref src, .ref x0], []⟩) R s := by
  obtain ⟨q1, q2, q3, q4, q5, q6⟩ := id hMat
  have hne := hMat.ne
  obtain ⟨dx, e1, e2, e3, e4, e5, e6, e7, e8, e9, hx, hdx⟩ := id hp
  have hPs' := Ne.symm hPs
  k_dflt (refine' code_defCT ?k1 ?k2 ?k3 ?k4 ?k5 ?kA ?kF ?kK ?k6 ?k7 ?k8 ?k9 ?kB ?kD ?_ ?c2 ?c3 ?c4; (case kA => exact rfl); (case kF => first | assumption | exact rfl); (case kK => first | assumption | exact rfl); (case k1 => k_asm); (case k2 => k_asm); (case k3 => k_asm); (case k4 => k_asm); (case k5 => k_asm); (case k6 => k_is); (case k7 => k_is); (case k8 => walk_at "nz room"); (case k9 => exact BindsTo.of_eq rfl); (case kB => exact rfl); (case kD => decide +kernel); (case c2 => exact rfl); (case c3 => exact rfl); (case c4 => exact rfl); k_whole; intro g1 L1 h1 tk1 cells1 FG1 F1 N1 Y1 B1 X1 T1 l1; (try k_lt l1); obtain ⟨oc1, oc2, hE, dc1, dc2⟩ := CellsAre.two Y1; subst hE; (try simp only [List.cons_append, List.nil_append] at N1); (try dsimp only); (try k_lift B1); (try k_fold); with_reducible refine anyE fun EE => ?_)

  k_steps
  · unfold Hold
    (rename News _ _ _ _ => N9)
    obtain ⟨o4, N9, hS4⟩ : ∃ o4, News g1 L1 _ ((L1 + 1 + 1, oc1) :: (L1 + 1, oc2) :: (src, o4) :: (183, tabObj #[]) :: rest) ∧ SrcOk o4 := ⟨_, newsSub N9 fun p hp => .tail _ hp, by assumption⟩
    k_dflt (refine LCg.ListComp_U (F₀ := by k_asm) (by with_unfolding_all rfl) (by decide) (by rfl) (by decide) (by rfl) ?_)
    k_steps
    unfold Hold
    (rename News _ _ _ _ => N8)
    k_dflt (refine src_mat (fun row => rowD (row ++ [0])) (by rfl) (by k_asm) N8 hM (by walk_at "nz sub") (by omega) ?_ ?_)
    · intro g2 i2 tl2 b2 row2 I2 oI2 C2 oC2 D2 oD2 m2 h2 tk3 E2 hrow2 hb2 hC2 hx2 F2 N2 off2 ne2 ha2
      have hl2 := hMat.getRow hrow2
      k_steps
      (rename News _ _ _ _ => N9)
      (rename Fr _ _ _ _ => F9)
      (rename DatIn [_] _ _ => hd9)
      (rename (∀ p : Addr × Obj, p ∈ _ → p.1 < _) => lt9)
      exact Hold.out (eltEnd_one F9 (newsHead N9 fun q hq => .tail _ hq) hd9 fun q hq => lt9 q (.tail _ hq))
    · intro g2 ys2 tl2 hyl2 hds2 hap2
      intro D2 h2 tk2 F2 N2 off2
      obtain ⟨hD2, hA2⟩ := comp_fin hds2 hap2 off2
      k_steps
      (rename PlIn _ _ _ _ _ => hx9)
      (rename Apart _ _ => ha9)
      (rename News _ _ _ _ => N9)
      obtain ⟨T9, hx9, hD9, ha9, N9⟩ : ∃ T, PlIn T _ (W + 1) H D2 ∧ DatIn T (.ref D2) (matD (M.map fun row => row ++ [0])) ∧ Apart T ((L1 + 1 + 1, oc1) :: (L1 + 1, oc2) :: (src, o4) :: (183, tabObj #[]) :: rest) ∧ News g1 L1 _ ((L1 + 1 + 1, oc1) :: (L1 + 1, oc2) :: (src, o4) :: (183, tabObj #[]) :: (T ++ rest)) := by
        refine ⟨_ ++ ((D2, LCg.lst ys2) :: tl2), hx9.mono fun p hp => List.mem_append_left _ hp, DatIn.mono (fun p hp => List.mem_append_right _ hp) ?_, Apart.app (fun p hp q hq => ha9 p hp q (.tail _ (List.mem_append_right _ hq))) hA2, newsSub N9 fun p hp => ?_⟩
        · rw [matD, List.map_map]; exact hD2
        · simp only [List.mem_append, List.mem_cons] at hp ⊢
          rcases hp with h | h | h | h | (h | h | h) | h <;> simp [h]
      clear hD2 hA2 hds2 hap2 off2
      obtain ⟨R9, hR9⟩ : ∃ R9, R9 = T9 ++ rest := ⟨_, rfl⟩
      have r0 : ∀ p ∈ rest, p ∈ R9 := by subst hR9; exact fun p hp => List.mem_append_right _ hp
      have rT : ∀ p ∈ T9, p ∈ R9 := by subst hR9; exact fun p hp => List.mem_append_left _ hp
      have r1 : ∀ p ∈ R9, p.1 ≠ L1 + 1 + 1 := by subst hR9; exact fun p hp => (List.mem_append.mp hp).elim (fun h => ha9 p h _ (.head _)) (off_of l1 (by omega) p)
      have r2 : ∀ p ∈ R9, p.1 ≠ 183 := by subst hR9; exact fun p hp => (List.mem_append.mp hp).elim (fun h => ha9 p h (183, tabObj #[]) (.tail _ (.tail _ (.tail _ (.head _))))) (hoffP p)
      have r3 : ∀ p ∈ R9, p.1 ≠ src := by subst hR9; exact fun p hp => (List.mem_append.mp hp).elim (fun h => ha9 p h (src, o4) (.tail _ (.tail _ (.head _)))) (hoff p)
      rw [← hR9] at N9
      replace hx9 := hx9.mono rT
      replace hD9 := hD9.mono rT
      have hp9 := hp.mono r0
      have hM9 := hM.mono r0
      k_steps
      unfold Hold
      k_dflt (refine' kla_eval ?d0 ?_; (case d0 => exact rfl))
      k_dflt (refine' kla_nest ?F ?N ?T ?C ?cd ?U ?t ?n ?cl ?_; (case F => k_asm); (case N => k_asm); (case T => k_asm); (case cd => exact rfl); (case C => exact CodeHd.keeps hC (Below.stays B1)); (case U => k_updF); (case t => kn_triples); (case n => kn_among); (case cl => exact rfl); k_whole)
      intro f9 c9 oc9 vs9 t9 ct9 h9 tk9 FL NL dl1 dl2 ll1 ll2
      (try dsimp only at NL)
      k_steps
      unfold Hold
      (rename News _ _ _ _ => N9)
      (rename Fr _ _ _ _ => F9)
      refine wpAny_call ?_
      k_dflt (refine' refused_t B1 F9 X1 T1 rfl rfl XB TB N9 ?D (.head _) ?hd ?hu ?_)
      case hd => walk_at "nz room"
      case hu => walk_at "nz units"
      case D =>
        intro A₁ dp' un' env' outer' base' h₀' L' m' s' R' nl B' F' X' T' hf' hk' N' hs' hd' hu' raise'
        k_dflt (refine' kla_code B' F' X' N' T' rfl hf' hk' (hs' _ (.head _)) (codeRec_news N' (hs' _ (.tail _ (.head _))) (by assumption) (by assumption)) ?k8 rfl (locs rfl) ?_ rfl rfl rfl (by decide))
        case k8 => walk_at "nz room"
        intro g9 L9 h9 FG9 F8 N8 B8 X8 T8
        have N7 := newsSub (l' := _ ++ nl) N8 (fun p hp => (List.mem_append.mp hp).elim (hs' p) id)
        clear N8
        simp only [List.cons_append] at N7
        have C8 : CodeHd base 185 183 := hC
        k_steps
        clear C8
        unfold Hold
        refine wpAny_call ?_
        k_dflt (refine' greatestBad_t B8 (by k_asm) X8 T8 rfl rfl N7 hp9 (by walk_at "nz sub") hx9 (by walk_at "nz sub") (by omega) ?hd ?hu ?_)
        case hd => walk_at "nz room"
        case hu => walk_at "nz units"
        intro Bx ex tx dx' odx msgx hx' tkx hmd hmn Rx
        dsimp only
        exact leave_next Rx rfl FG9 hf' rfl (fun p hp => by walk_at "nz in") fun h'' Ry => raise' _ _ _ _ _ _ _ _ hmd hmn Ry
      intro h₀2 h3 tk3 T3 F3 N3 B3
      have X3 := XB.keeps B3.stays
      have P3 := TB.keeps B3.stays
      k_steps
      unfold Hold
      refine wpAny_call ?_
      k_dflt (refine' same_t B3 (by k_asm) X3 P3 rfl rfl (by k_asm) hp9 (by walk_at "nz sub") hx9 (by walk_at "nz sub") hM9 (by walk_at "nz sub") hD9 (by walk_at "nz sub") ?hd ?hu ?_)
      case hd => walk_at "nz room"
      case hu => walk_at "nz units"
      intro bb h4 tk4 hbb F4 N4
      obtain rfl : bb = false := by
        cases bb
        · rfl
        · have := (hbb.mp rfl).1; omega
      k_steps
      (rename News _ _ _ _ => N9)
      (rename Fr _ _ _ _ => F9)
      exact ⟨h₀2, L1, _, _, T3, F9, N9, fun h' T' F' N' B' => ret h' o4 _ _ _ hS4 T' F' (newsLast4 N' r0) B'⟩

  · unfold Hold
    (rename News _ _ _ _ => N9)
    obtain ⟨o4, N9, hS4⟩ : ∃ o4, News g1 L1 _ ((L1 + 1 + 1, oc1) :: (L1 + 1, oc2) :: (src, o4) :: (183, tabObj #[]) :: rest) ∧ SrcOk o4 := ⟨_, newsSub N9 fun p hp => .tail _ hp, by assumption⟩
    k_dflt (refine LCg.Assign_ListComp_U (F₀ := by k_asm) (by rfl) (by with_unfolding_all rfl) (by with_unfolding_all rfl) (by decide) (by rfl) (by decide) (by rfl) (by rfl) (by rfl) ?_)
    k_steps
    unfold Hold
    (rename News _ _ _ _ => N8)
    k_dflt (refine src_matA (fun row => row) (by rfl) (by k_asm) N8 hM (by walk_at "nz sub") (by omega) ?_ ?_)
    · intro g2 i2 tl2 b2 row2 I2 oI2 C2 oC2 D2 oD2 m2 h2 tk3 E2 hrow2 hb2 hC2 hx2 F2 N2 off2 ne2 ha2
      have hl2 := hMat.getRow hrow2
      k_steps
      exact Hold.out (eltRow_one (by k_asm) (by k_asm) (by assumption) (by assumption))
    · intro g2 ys2 tl2 hyl2 hds2 hap2
      intro D2 h2 tk2 F2 N2 off2
      obtain ⟨as2, hD2, hA2⟩ := rowsA_mat hds2 hap2 off2
      rw [List.map_id''] at hD2
      obtain ⟨nb, hnb⟩ : ∃ nb, nb = (L1 + 1 + 1, oc1) :: (L1 + 1, oc2) :: (183, tabObj #[]) :: rest := ⟨_, rfl⟩
      have nb0 : ∀ p ∈ nb, p.1 ≠ src := by
        subst hnb; intro p hp
        simp only [List.mem_cons] at hp
        rcases hp with rfl | rfl | rfl | hp
        · show @Ne Nat _ _; omega
        · show @Ne Nat _ _; omega
        · exact hPs'
        · exact hoff p hp
      obtain ⟨nb1, nb2, nb3, nb4⟩ : (L1 + 1 + 1, oc1) ∈ nb ∧ (L1 + 1, oc2) ∈ nb ∧ ((183, tabObj #[]) : Addr × Obj) ∈ nb ∧ ∀ p ∈ rest, p ∈ nb := by
        subst hnb; exact ⟨.head _, .tail _ (.head _), .tail _ (.tail _ (.head _)), fun p hp => .tail _ (.tail _ (.tail _ hp))⟩
      obtain ⟨tL, hD2, hA2, N2⟩ : ∃ tL, MatA tL D2 as2 M ∧ Apart tL ((src, o4) :: nb) ∧ News g1 L1 h2 ((src, o4) :: (tL ++ nb)) := by
        refine ⟨_, hD2, fun p hp q hq => hA2 p hp q ?_, newsSub N2 fun p hp => ?_⟩
        · subst hnb; simp only [List.mem_cons] at hq ⊢; rcases hq with h | h | h | h | h <;> simp [h]
        · subst hnb; simp only [List.mem_cons, List.mem_append, LCg.lst] at hp ⊢; rcases hp with h | (h | h) | h | h | h | h <;> simp [h]
      clear hds2 hap2 off2
      have tL0 : ∀ p ∈ tL ++ nb, p.1 ≠ src := fun p hp => (List.mem_append.mp hp).elim (fun h => hA2 p h (src, o4) (.head _)) (nb0 p)
      k_steps
      unfold Hold
      (rename News _ _ _ _ => N9)
      (rename Fr _ _ _ _ => F9)
      (rename SrcOk _ => hS5)
      obtain ⟨mm, F9, hrows, hsrc, twd, hwide, thg, hhigh⟩ : ∃ mm, Fr g1 L1 _ mm ∧ mm (Str.ofString "rows") = some (.ref D2) ∧ mm (Str.ofString "source") = some (.ref src) ∧ ∃ tw, mm (Str.ofString "wide") = some (.int W tw) ∧ ∃ th, mm (Str.ofString "high") = some (.int H th) := ⟨_, F9, rfl, rfl, _, rfl, _, rfl⟩
      k_dflt (refine' for_range (fun i m' nw' => ∃ (oS : Obj) (tl : List (Addr × Obj)) (R : List (List Int)), nw' = (src, oS) :: (tl ++ nb) ∧ SrcOk oS ∧ MatA tl D2 as2 R ∧ Mat R W H ∧ Apart tl ((src, o4) :: nb) ∧
        m' (Str.ofString "rows") = some (.ref D2) ∧ m' (Str.ofString "source") = some (.ref src) ∧ m' (Str.ofString "wide") = some (.int W twd) ∧ m' (Str.ofString "high") = some (.int H thg)) ?hh ?hr ?h0 ?h1 ?F ?N ?hJ ?turn ?done ?ht)
      case F => exact F9
      case N => exact N9
      case ht => exact fun _ _ => rfl
      case hJ => exact ⟨_, tL, M, rfl, hS5, hD2, hMat, hA2, hrows, hsrc, hwide, hhigh⟩
      case hh => exact rfl
      case hr => assumption
      case h0 => omega
      case h1 => omega
      case turn =>
        clear N9 F9 hrows hsrc hwide hhigh hD2 hA2 tL0 hS5
        intro I g i k tk0 oI m₁ nw₁ h tk E' hi hk9 hJ F' N' off
        obtain ⟨oS, tl, R, rfl, hSi, hAi, hMi, hap, hrows, hsrc, hwide, hhigh⟩ := hJ
        have c0 : ∀ p ∈ tl ++ nb, p.1 ≠ src := fun p hp => (List.mem_append.mp hp).elim (fun h => hap p h (src, o4) (.head _)) (nb0 p)
        have c1 : @Ne Nat src I := off _ (.head _)
        have c2 := Ne.symm c1
        obtain ⟨u1, u2, u3, u4, u5, u6⟩ := id hMi
        k_steps
        unfold Hold
        (rename News _ _ _ _ => N9)
        (rename Fr _ _ _ _ => F9)
        (rename SrcOk _ => hS9)
        (rename (as2[_]? = some _) => hb9)
        (rename (R[_]? = some _) => hr9)
        (rename List Int => row9)
        (rename (((List.length _ : Nat) : Int) = W) => hl9)
        k_dflt (refine mat_store F9 N9 hAi (by walk_at "nz sub") hb9 hr9 (by omega) (by omega) (by omega) ?_)
        intro o' h' hbm F' N' A'
        obtain ⟨usb, nnb, hbm⟩ := hbm
        have hbI : @Ne Nat _ I := off _ (.tail _ (List.mem_append_left _ hbm))
        have hbs : @Ne Nat _ src := hap _ hbm (src, o4) (.head _)
        rw [updL_mid hbm hbI hbs fun p hp q hq => hap p hp q (.tail _ hq)] at N'
        k_steps
        (rename News _ _ _ _ => N8)
        (rename Fr _ _ _ _ => F8)
        refine turnU_done F8 N8 _ (fun p hp => hp) (List.forall_mem_cons.mpr ⟨c1, fun p hp => (List.mem_append.mp hp).elim (updL_all hbm (fun p hp => off p (.tail _ (List.mem_append_left _ hp))) p) fun h => off p (.tail _ (List.mem_append_right _ h))⟩) ⟨_, _, _, rfl, hS9, A', hMi.put hr9, updL_apart hap, (if_neg (by decide)).trans hrows, (if_neg (by decide)).trans hsrc, (if_neg (by decide)).trans hwide, (if_neg (by decide)).trans hhigh⟩
      case done =>
        clear N9 F9 hrows hsrc hwide hhigh hD2 hA2 tL0 hS5
        intro g m₁ nw₁ h tk hJ F' N'
        obtain ⟨oS, tl, R, rfl, hSi, hAi, hMi, hap, hrows, hsrc, hwide, hhigh⟩ := hJ
        have c0 : ∀ p ∈ tl ++ nb, p.1 ≠ src := fun p hp => (List.mem_append.mp hp).elim (fun h => hap p h (src, o4) (.head _)) (nb0 p)
        obtain ⟨u1, u2, u3, u4, u5, u6⟩ := id hMi
        k_steps
        unfold Hold
        (rename News _ _ _ _ => N9)
        (rename Fr _ _ _ _ => F9)
        obtain ⟨mm, F9, tdu, hdue, hrows, hwide, hhigh⟩ : ∃ mm, Fr g1 L1 _ mm ∧ ∃ t, mm (Str.ofString "due") = some (.int 0 t) ∧ mm (Str.ofString "rows") = some (.ref D2) ∧ mm (Str.ofString "wide") = some (.int W twd) ∧ mm (Str.ofString "high") = some (.int H thg) := ⟨_, F9, _, if_pos rfl, (if_neg (by decide)).trans hrows, (if_neg (by decide)).trans hwide, (if_neg (by decide)).trans hhigh⟩
        obtain ⟨led, hled⟩ : ∃ led, led = (src, oS) :: (tl ++ nb) := ⟨_, rfl⟩
        have i0 : ∀ p ∈ tl, p ∈ led := by subst hled; exact fun p hp => .tail _ (List.mem_append_left _ hp)
        have i1 : ∀ p ∈ nb, p ∈ led := by subst hled; exact fun p hp => .tail _ (List.mem_append_right _ hp)
        have i2 := i1 _ nb2
        have hAl := hAi.mono i0
        have hAd := hAl.dat
        have hpl := hp.mono fun p h => i1 p (nb4 p h)
        have hMl := hM.mono fun p h => i1 p (nb4 p h)
        rw [← hled] at N9
        obtain ⟨dxl, f1, f2, f3, f4, f5, f6, f7, f8, f9, hxl, hdxl⟩ := id hpl
        clear hx hdx
        k_dflt (refine' for_range (fun i m' nw' => nw' = led ∧ ∃ t, m' (Str.ofString "due") = some (.int ((List.range i).foldl (fun acc y => rowD2 acc (M.getD y []) (R.getD y []) W.toNat) 0) t) ∧
          m' (Str.ofString "rows") = some (.ref D2) ∧ m' (Str.ofString "wide") = some (.int W twd) ∧ m' (Str.ofString "high") = some (.int H thg)) ?hh ?hr ?h0 ?h1 ?F ?N ?hJ ?turn ?done ?ht)
        case F => exact F9
        case N => exact N9
        case ht => exact fun _ _ => rfl
        case hJ => exact ⟨rfl, _, hdue, hrows, hwide, hhigh⟩
        case hh => exact rfl
        case hr => assumption
        case h0 => omega
        case h1 => omega
        case turn =>
          clear N9 F9 hdue hrows hwide hhigh
          intro I g i k tk0 oI m₁ nw₁ h tk E' hi hk9 hJ F' N' off
          obtain ⟨rfl, tq, hdue, hrows, hwide, hhigh⟩ := hJ
          generalize hacc : (List.range i).foldl (fun acc y => rowD2 acc (M.getD y []) (R.getD y []) W.toNat) 0 = acc at hdue
          k_steps
          unfold Hold
          (rename News _ _ _ _ => N9)
          (rename Fr _ _ _ _ => F9)
          obtain ⟨mm, F9, hdue, hy, hrows, hwide, hhigh⟩ : ∃ mm, Fr g1 L1 _ mm ∧ mm (Str.ofString "due") = some (.int acc tq) ∧ mm (Str.ofString "y") = some (.int k tk0) ∧ mm (Str.ofString "rows") = some (.ref D2) ∧ mm (Str.ofString "wide") = some (.int W twd) ∧ mm (Str.ofString "high") = some (.int H thg) := ⟨_, F9, (if_neg (by decide)).trans hdue, if_pos rfl, (if_neg (by decide)).trans hrows, (if_neg (by decide)).trans hwide, (if_neg (by decide)).trans hhigh⟩
          k_dflt (refine' for_range (fun j m' nw' => nw' = (I, oI) :: nw₁ ∧ ∃ t, m' (Str.ofString "due") = some (.int ((List.range j).foldl (fun acc x => stepD acc ((M.getD i []).getD x 0) ((R.getD i []).getD x 0)) acc) t) ∧ m' (Str.ofString "y") = some (.int k tk0) ∧
            m' (Str.ofString "rows") = some (.ref D2) ∧ m' (Str.ofString "wide") = some (.int W twd) ∧ m' (Str.ofString "high") = some (.int H thg)) ?ihh ?ihr ?ih0 ?ih1 ?iF ?iN ?ihJ ?iturn ?idone ?iht)
          case iF => exact F9
          case iN => exact N9
          case iht => exact fun _ _ => rfl
          case ihJ => exact ⟨rfl, _, hdue, hy, hrows, hwide, hhigh⟩
          case ihh => exact rfl
          case ihr => assumption
          case ih0 => omega
          case ih1 => omega
          case iturn =>
            clear N9 F9 hdue hy hrows hwide hhigh
            intro I2 g2 j k2 tk2 oI2 m₂ nw₂ h2 tk3 E2 hj hk2 hJ F' N' off2
            obtain ⟨rfl, tr, hdue, hy, hrows, hwide, hhigh⟩ := hJ
            generalize hacc2 : (List.range j).foldl (fun acc x => stepD acc ((M.getD i []).getD x 0) ((R.getD i []).getD x 0)) acc = acc2 at hdue
            k_steps
            (rename News _ _ _ _ => N9)
            (rename Fr _ _ _ _ => F9)
            refine turnU_done F9 N9 _ (fun p hp => hp) off2 ⟨rfl, ?t, ?e, (if_neg (by decide)).trans ((if_neg (by decide)).trans hy), (if_neg (by decide)).trans ((if_neg (by decide)).trans hrows), (if_neg (by decide)).trans ((if_neg (by decide)).trans hwide), (if_neg (by decide)).trans ((if_neg (by decide)).trans hhigh)⟩
            case e =>
              rw [foldl_range_succ, hacc2]
              refine (if_pos rfl).trans ?_
              refine' due_at hk9 hk2 ?f1 ?e1 ?f2 ?e2 ?f3 ?e3 ?f4 ?e4
              case f1 => assumption
              case e1 => assumption
              case f2 => assumption
              case e2 => assumption
              case f3 => assumption
              case e3 => assumption
              case f4 => assumption
              case e4 => assumption
          case idone =>
            clear N9 F9 hdue hy hrows hwide hhigh
            intro g2 m₂ nw₂ h2 tk3 hJ F2 N2
            obtain ⟨rfl, tr, hdue, hy, hrows, hwide, hhigh⟩ := hJ
            k_steps
            (rename News _ _ _ _ => N9)
            (rename Fr _ _ _ _ => F9)
            refine turnU_done F9 N9 _ (fun p hp => hp) off ⟨rfl, tr, ?_, hrows, hwide, hhigh⟩
            rw [foldl_range_succ, hacc]
            exact hdue
        case done =>
          clear N9 F9 hdue hrows hwide hhigh
          intro g m₁ nw₁ h tk hJ F' N'
          obtain ⟨rfl, tq, hdue, hrows, hwide, hhigh⟩ := hJ
          replace hdue : m₁ (Str.ofString "due") = some (.int (dueM M R H.toNat W.toNat) tq) := hdue
          rw [← diff_due hMat hMi] at hdue
          have ed : diffM R M = diffM M R := (diff_due' hMat hMi).trans (diff_due hMat hMi).symm
          have ez := diff_zero hMat hMi
          k_steps
          (rename PlIn _ _ _ _ _ => hx9)
          (rename Apart _ _ => ha9)
          (rename News _ _ _ _ => N9)
          obtain ⟨led2, hled2⟩ : ∃ led2, led2 = (src, oS) :: (tl ++ ((L1 + 1, oc2) :: (183, tabObj #[]) :: rest)) := ⟨_, rfl⟩
          have j0 : ∀ p ∈ led2, @Ne Nat p.1 (L1 + 1 + 1) := by
            subst hled2; intro p hp
            simp only [List.mem_cons, List.mem_append] at hp
            rcases hp with rfl | hp | rfl | rfl | hp
            · show @Ne Nat _ _; omega
            · exact hap p hp (L1 + 1 + 1, oc1) (by subst hnb; exact .tail _ (.head _))
            · show @Ne Nat _ _; omega
            · show @Ne Nat _ _; omega
            · exact off_of l1 (by omega) p hp
          have j1 : ∀ p ∈ (L1 + 1 + 1, oc1) :: led2, p ∈ nw₁ := by
            subst hled2; subst hled; subst hnb; intro p hp
            simp only [List.mem_cons, List.mem_append] at hp ⊢
            rcases hp with h | h | h | h | h | h <;> simp [h]
          have j2 : ∀ p ∈ nw₁, p ∈ (L1 + 1 + 1, oc1) :: led2 := by
            subst hled2; subst hled; subst hnb; intro p hp
            simp only [List.mem_cons, List.mem_append] at hp ⊢
            rcases hp with h | h | h | h | h | h <;> simp [h]
          obtain ⟨tP, hx9, ha9, N9⟩ : ∃ tP, PlIn tP _ W H D2 ∧ Apart tP nw₁ ∧ News g1 L1 _ (tP ++ nw₁) := ⟨_, hx9, ha9, N9⟩
          obtain ⟨R9, hR9⟩ : ∃ R9, R9 = tP ++ led2 := ⟨_, rfl⟩
          have kP : ∀ p ∈ tP, p ∈ R9 := by subst hR9; exact fun p hp => List.mem_append_left _ hp
          have k2 : ∀ p ∈ led2, p ∈ R9 := by subst hR9; exact fun p hp => List.mem_append_right _ hp
          have m1 : ∀ p ∈ R9, p.1 ≠ L1 + 1 + 1 := by subst hR9; exact fun p hp => (List.mem_append.mp hp).elim (fun h => ha9 p h _ (j1 _ (.head _))) (j0 p)
          have N9 : News g1 L1 _ ((L1 + 1 + 1, oc1) :: R9) := newsSub N9 (by
            subst hR9; intro p hp
            rcases List.mem_cons.mp hp with rfl | hp
            · exact List.mem_append_right _ (j1 _ (.head _))
            · exact (List.mem_append.mp hp).elim (List.mem_append_left _) fun h => List.mem_append_right _ (j1 p (.tail _ h)))
          have k3 : (L1 + 1, oc2) ∈ R9 := k2 _ (by subst hled2; exact .tail _ (List.mem_append_right _ (.head _)))
          have k4 : (src, oS) ∈ R9 := k2 _ (by subst hled2; exact .head _)
          have k5 : (183, tabObj #[]) ∈ R9 := k2 _ (by subst hled2; exact .tail _ (List.mem_append_right _ (.tail _ (.head _))))
          have k6 : ∀ p ∈ rest, p ∈ R9 := fun p hp => k2 _ (by subst hled2; exact .tail _ (List.mem_append_right _ (.tail _ (.tail _ hp))))
          have hp9 := hp.mono k6
          have hM9 := hM.mono k6
          have hD9 := hAi.dat.mono fun p h => k2 p (by subst hled2; exact .tail _ (List.mem_append_left _ h))
          replace hx9 := hx9.mono kP
          clear hMl hpl hAd hAl hxl hdxl i2 ha9
          k_steps
          unfold Hold
          refine wpAny_call ?_
          k_dflt (refine' greatest_t B1 (by k_asm) X1 T1 rfl rfl (by k_asm) hp9 (by walk_at "nz sub") hx9 (by walk_at "nz sub") hM9 (by walk_at "nz sub") hD9 (by walk_at "nz sub") ?hd ?hu ?_)
          case hd => walk_at "nz room"
          case hu => walk_at "nz units"
          intro t4 h4 tk4 F4 N4
          k_steps
          unfold Hold
          refine wpAny_call ?_
          k_dflt (refine' greatest_t B1 (by k_asm) X1 T1 rfl rfl (by k_asm) hx9 (by walk_at "nz sub") hp9 (by walk_at "nz sub") hD9 (by walk_at "nz sub") hM9 (by walk_at "nz sub") ?hd ?hu ?_)
          case hd => walk_at "nz room"
          case hu => walk_at "nz units"
          intro t5 h5 tk5 F5 N5
          rw [ed]
          k_steps
          unfold Hold
          refine wpAny_call ?_
          k_dflt (refine' same_t B1 (by k_asm) X1 T1 rfl rfl (by k_asm) hp9 (by walk_at "nz sub") hx9 (by walk_at "nz sub") hM9 (by walk_at "nz sub") hD9 (by walk_at "nz sub") ?hd ?hu ?_)
          case hd => walk_at "nz room"
          case hu => walk_at "nz units"
          intro bb h6 tk6 hbb F6 N6
          obtain rfl : bb = decide (diffM M R = 0) := by
            rw [Bool.eq_iff_iff, hbb, decide_eq_true_iff, ez]
            exact ⟨fun h => h.2.2, fun h => ⟨rfl, rfl, h⟩⟩
          k_steps
          rw [show (decide (diffM M R = 0) == (diffM M R == 0)) = true by rw [beq_iff_eq, Bool.eq_iff_iff]; simp]
          (rename News _ _ _ _ => N9)
          (rename Fr _ _ _ _ => F9)
          exact ⟨g1, L1, _, _, KtsTurn.refl, F9, N9, fun h' T' F' N' B' => ret h' oS #[] _ _ hSi T' F' (newsSub N' fun p hp => by
            rcases List.mem_cons.mp hp with rfl | hp
            · exact .tail _ k4
            · rcases List.mem_cons.mp hp with rfl | hp
              · exact .tail _ k5
              · exact .tail _ (k6 _ hp)) B'⟩

end
section
open PySem.Spec
/-- new objects t go behind the five that may turn -/
theorem grow5 {h₀ h : Heap} {L A B C D E : Addr} {oa ob oc od oe : Obj} {t l : List (Addr × Obj)} (ha : Apart t ((A, oa) :: (B, ob) :: (C, oc) :: (D, od) :: (E, oe) :: l)) (N : News h₀ L h (t ++ (A, oa) :: (B, ob) :: (C, oc) :: (D, od) :: (E, oe) :: l))
    (t1 : ∀ p ∈ l, p.1 ≠ A) (t2 : ∀ p ∈ l, p.1 ≠ B) (t3 : ∀ p ∈ l, p.1 ≠ C) (t4 : ∀ p ∈ l, p.1 ≠ D) (t5 : ∀ p ∈ l, p.1 ≠ E) :
    ∃ R, (∀ p ∈ t, p ∈ R) ∧ (∀ p ∈ l, p ∈ R) ∧ (∀ p ∈ R, p.1 ≠ A) ∧ (∀ p ∈ R, p.1 ≠ B) ∧ (∀ p ∈ R, p.1 ≠ C) ∧ (∀ p ∈ R, p.1 ≠ D) ∧ (∀ p ∈ R, p.1 ≠ E) ∧ News h₀ L h ((A, oa) :: (B, ob) :: (C, oc) :: (D, od) :: (E, oe) :: R) := by
  have off : ∀ (X : Addr) (ox : Obj), (X, ox) ∈ (A, oa) :: (B, ob) :: (C, oc) :: (D, od) :: (E, oe) :: l → (∀ p ∈ l, p.1 ≠ X) → ∀ p ∈ t ++ l, p.1 ≠ X := fun X ox hm hl p hp => (List.mem_append.mp hp).elim (fun h => ha p h (X, ox) hm) (hl p)
  refine ⟨t ++ l, fun p hp => List.mem_append_left _ hp, fun p hp => List.mem_append_right _ hp, off A oa (.head _) t1, off B ob (.tail _ (.head _)) t2, off C oc (.tail _ (.tail _ (.head _))) t3, off D od (.tail _ (.tail _ (.tail _ (.head _)))) t4, off E oe (.tail _ (.tail _ (.tail _ (.tail _ (.head _))))) t5, newsSub N fun p hp => ?_⟩
  simp only [List.mem_cons, List.mem_append] at hp ⊢
  rcases hp with h | h | h | h | h | h | h <;> simp [h]
theorem grow5b {h₀ h : Heap} {L A B C D E : Addr} {oa ob oc od oe : Obj} {t l : List (Addr × Obj)} (N : News h₀ L h (t ++ (A, oa) :: (B, ob) :: (C, oc) :: (D, od) :: (E, oe) :: l))
    (a1 : ∀ p ∈ t, p.1 ≠ A) (a2 : ∀ p ∈ t, p.1 ≠ B) (a3 : ∀ p ∈ t, p.1 ≠ C) (a4 : ∀ p ∈ t, p.1 ≠ D) (a5 : ∀ p ∈ t, p.1 ≠ E)
    (t1 : ∀ p ∈ l, p.1 ≠ A) (t2 : ∀ p ∈ l, p.1 ≠ B) (t3 : ∀ p ∈ l, p.1 ≠ C) (t4 : ∀ p ∈ l, p.1 ≠ D) (t5 : ∀ p ∈ l, p.1 ≠ E) :
    ∃ R, (∀ p ∈ t, p ∈ R) ∧ (∀ p ∈ l, p ∈ R) ∧ (∀ p ∈ R, p.1 ≠ A) ∧ (∀ p ∈ R, p.1 ≠ B) ∧ (∀ p ∈ R, p.1 ≠ C) ∧ (∀ p ∈ R, p.1 ≠ D) ∧ (∀ p ∈ R, p.1 ≠ E) ∧ News h₀ L h ((A, oa) :: (B, ob) :: (C, oc) :: (D, od) :: (E, oe) :: R) := by
  refine ⟨t ++ l, fun p hp => List.mem_append_left _ hp, fun p hp => List.mem_append_right _ hp, fun p hp => (List.mem_append.mp hp).elim (a1 p) (t1 p), fun p hp => (List.mem_append.mp hp).elim (a2 p) (t2 p), fun p hp => (List.mem_append.mp hp).elim (a3 p) (t3 p), fun p hp => (List.mem_append.mp hp).elim (a4 p) (t4 p), fun p hp => (List.mem_append.mp hp).elim (a5 p) (t5 p), newsSub N fun p hp => ?_⟩
  simp only [List.mem_cons, List.mem_append] at hp ⊢
  rcases hp with h | h | h | h | h | h | h <;> simp [h]
theorem twTr : ¬ pTr (Str.ofString "twist") = true := by rw [show pTr (Str.ofString "twist") = false from rfl]; exact Bool.false_ne_true
theorem twMi : ¬ pMi (Str.ofString "twist") = true := by rw [show pMi (Str.ofString "twist") = false from rfl]; exact Bool.false_ne_true
theorem twFl : ¬ pFl (Str.ofString "twist") = true := by rw [show pFl (Str.ofString "twist") = false from rfl]; exact Bool.false_ne_true
theorem twSt : ¬ pSt (Str.ofString "twist") = true := by rw [show pSt (Str.ofString "twist") = false from rfl]; exact Bool.false_ne_true
theorem strs8 {a b c d e f g h : Tok} {i : Nat} {v : Value} (hi : [Value.str (Str.ofString "stay") a, Value.str (Str.ofString "left") b, Value.str (Str.ofString "back") c, Value.str (Str.ofString "right") d, Value.str (Str.ofString "mirror") e, Value.str (Str.ofString "flip") f, Value.str (Str.ofString "swap") g, Value.str (Str.ofString "cross") h][i]? = some v) : ∃ wd t, v = .str wd t ∧ wd ∈ words8 := by
  have hm := List.mem_of_getElem? hi
  simp only [List.mem_cons, List.not_mem_nil, or_false] at hm
  rcases hm with rfl | rfl | rfl | rfl | rfl | rfl | rfl | rfl <;> exact ⟨_, _, rfl, by simp [words8]⟩
end
section
open PySem.Spec
/-- rows that make no plane -/
def BadM (M : List (List Int)) : Prop := M.length < 1000 ∧ (∀ row ∈ M, row.length < 1000) ∧ ∀ r0 rest, M = r0 :: rest → (M.map fun row => decide ((row.length : Int) ≠ (r0.length : Int))).any id = true ∨ r0.length = 0
theorem bad1 : BadM [] := ⟨by decide, by decide, fun _ _ h => by cases h⟩
theorem bad2 : BadM [[]] := ⟨by decide, by decide, fun _ _ h => by cases h; exact .inr rfl⟩
theorem bad3 : BadM [[1, 2], [3]] := ⟨by decide, by decide, fun _ _ h => by cases h; exact .inl (by decide)⟩
theorem bad4 : BadM [[1], [2, 3]] := ⟨by decide, by decide, fun _ _ h => by cases h; exact .inl (by decide)⟩
theorem odd_at {h₀ h : Heap} {L l a1 a2 a3 a4 a5 a6 a7 a8 a9 : Addr} {t1 t2 t3 t4 t5 t6 : Tok} {rest : List (Addr × Obj)} {i : Nat} {v : Value}
    (N : News h₀ L h (((l, listOf ([.ref a9, .ref a7, .ref a4, .ref a1] : List Value).toArray 0) : Addr × Obj) :: ((a1, listOf ([.ref a3, .ref a2] : List Value).toArray 0) : Addr × Obj) :: ((a2, listOf ([.int 2 t1, .int 3 t2] : List Value).toArray 0) : Addr × Obj) :: ((a3, listOf ([.int 1 t3] : List Value).toArray 0) : Addr × Obj) :: ((a4, listOf ([.ref a6, .ref a5] : List Value).toArray 0) : Addr × Obj) :: ((a5, listOf ([.int 3 t4] : List Value).toArray 0) : Addr × Obj) :: ((a6, listOf ([.int 1 t5, .int 2 t6] : List Value).toArray 0) : Addr × Obj) :: ((a7, listOf ([.ref a8] : List Value).toArray 0) : Addr × Obj) :: ((a8, listOf ([] : List Value).toArray 0) : Addr × Obj) :: ((a9, listOf ([] : List Value).toArray 0) : Addr × Obj) :: rest)) (hi : ([.ref a9, .ref a7, .ref a4, .ref a1] : List Value)[i]? = some v) :
    ∃ (T : List (Addr × Obj)) (a : Addr) (Mb : List (List Int)), T = [((l, listOf ([.ref a9, .ref a7, .ref a4, .ref a1] : List Value).toArray 0) : Addr × Obj), ((a1, listOf ([.ref a3, .ref a2] : List Value).toArray 0) : Addr × Obj), ((a2, listOf ([.int 2 t1, .int 3 t2] : List Value).toArray 0) : Addr × Obj), ((a3, listOf ([.int 1 t3] : List Value).toArray 0) : Addr × Obj), ((a4, listOf ([.ref a6, .ref a5] : List Value).toArray 0) : Addr × Obj), ((a5, listOf ([.int 3 t4] : List Value).toArray 0) : Addr × Obj), ((a6, listOf ([.int 1 t5, .int 2 t6] : List Value).toArray 0) : Addr × Obj), ((a7, listOf ([.ref a8] : List Value).toArray 0) : Addr × Obj), ((a8, listOf ([] : List Value).toArray 0) : Addr × Obj), ((a9, listOf ([] : List Value).toArray 0) : Addr × Obj)] ∧ v = .ref a ∧ DatIn T (.ref a) (matD Mb) ∧ BadM Mb ∧ News h₀ L h (T ++ rest) := by
  have hm := List.mem_of_getElem? hi
  simp only [List.mem_cons, List.not_mem_nil, or_false] at hm
  rcases hm with rfl | rfl | rfl | rfl
  · exact ⟨_, _, [], rfl, rfl, DatIn.list (.tail _ (.tail _ (.tail _ (.tail _ (.tail _ (.tail _ (.tail _ (.tail _ (.tail _ (.head _)))))))))) .nil, bad1, N⟩
  · exact ⟨_, _, [[]], rfl, rfl, DatIn.list (.tail _ (.tail _ (.tail _ (.tail _ (.tail _ (.tail _ (.tail _ (.head _)))))))) (.cons (DatIn.list (.tail _ (.tail _ (.tail _ (.tail _ (.tail _ (.tail _ (.tail _ (.tail _ (.head _))))))))) .nil) .nil), bad2, N⟩
  · exact ⟨_, _, [[1, 2], [3]], rfl, rfl, DatIn.list (.tail _ (.tail _ (.tail _ (.tail _ (.head _))))) (.cons (DatIn.list (.tail _ (.tail _ (.tail _ (.tail _ (.tail _ (.tail _ (.head _))))))) (.cons (.int _ _) (.cons (.int _ _) .nil))) (.cons (DatIn.list (.tail _ (.tail _ (.tail _ (.tail _ (.tail _ (.head _)))))) (.cons (.int _ _) .nil)) .nil)), bad3, N⟩
  · exact ⟨_, _, [[1], [2, 3]], rfl, rfl, DatIn.list (.tail _ (.head _)) (.cons (DatIn.list (.tail _ (.tail _ (.tail _ (.head _)))) (.cons (.int _ _) .nil)) (.cons (DatIn.list (.tail _ (.tail _ (.head _))) (.cons (.int _ _) (.cons (.int _ _) .nil))) .nil)), bad4, N⟩
end
theorem off_L20 : True := by
  w_top off
  k_with_none
  (k_with "znz in" => first | with_reducible assumption | with_reducible exact List.mem_cons_self | ((with_reducible refine List.mem_cons_of_mem _ ?_); walk_at "nz in") | ((with_reducible refine List.mem_append_right _ ?_); walk_at "nz in") | ((with_reducible refine List.mem_append_left _ ?_); walk_at "nz in"))
  (k_with "znz hA" => exact rfl)
  (k_with "znz room" => (first | exact room1 (by with_reducible assumption) rfl | exact room2 (by with_reducible assumption) rfl | omega | ((try simp only [depth_under_make, depth_under_kw, depth_in1, depth_deeper]); (try dsimp only [nzA]); (try simp only [recursionLimit]); omega)))
  (k_with "znz units" => (first | exact room1 (by with_reducible assumption) rfl | exact room2 (by with_reducible assumption) rfl | omega | ((try simp only [units_in1, units_deeper, Around.mark_units]); (try dsimp only [nzA]); (try simp only [cLine]); omega)))
  (k_with "znz enter" => first | (refine' code_def ?q5k1 ?q5k2 ?q5k3 ?q5k4 ?q5k5 ?q5kA ?q5kF ?q5kK ?q5k6 ?q5k7 ?q5k8 ?q5k9 ?q5kB ?_ ?q5c2 ?q5c3 ?q5c4 ?q5c5; (case q5kA => walk_at "nz hA"); (case q5kF | q5kK => first | assumption | exact rfl); (case q5k1 | q5k2 | q5k3 | q5k4 | q5k5 => k_asm); (case q5k6 | q5k7 => k_is); (case q5k8 => walk_at "nz room"); (case q5k9 => exact BindsTo.of_eq rfl); (case q5c5 => decide); (case q5kB => exact locs rfl); (case q5c2 | q5c3 | q5c4 => exact rfl); k_whole; intro gpq5 Lpq5 hpq5 FGpq5 Fpq5 Npq5 Bpq5 Xpq5 Tpq5; (try dsimp only); (try k_lift Bpq5); (try k_fold); with_reducible refine anyE fun EE => ?_) | (refine' code_defC ?q5k1 ?q5k2 ?q5k3 ?q5k4 ?q5k5 ?q5kA ?q5kF ?q5kK ?q5k6 ?q5k7 ?q5k8 ?q5k9 ?q5kB ?q5kD ?_ ?q5c2 ?q5c3 ?q5c4; (case q5kA => walk_at "nz hA"); (case q5kF | q5kK => first | assumption | exact rfl); (case q5k1 | q5k2 | q5k3 | q5k4 | q5k5 => k_asm); (case q5k6 | q5k7 => k_is); (case q5k8 => walk_at "nz room"); (case q5k9 => exact BindsTo.of_eq rfl); (case q5kB => exact rfl); (case q5kD => decide +kernel); (case q5c2 | q5c3 | q5c4 => exact rfl); k_whole; intro gpq5 Lpq5 hpq5 tkpq5 cellspq5 FGpq5 Fpq5 Npq5 Ypq5 Bpq5 Xpq5 Tpq5 l1q5; (try k_lt l1q5); k_cells Ypq5; (try simp only [List.cons_append, List.nil_append] at Npq5); (try dsimp only); (try k_lift Bpq5); (try k_fold); with_reducible refine anyE fun EE => ?_))
  (k_with "zeval ListComp" => (k_here; refine Hold.go ?_))
  (k_with "zexec Assign cons ListComp" => (k_here; refine Hold.go ?_))
  (k_with "zcall ref" => (k_here; refine Hold.go ?_))
  (k_with "zexec For" => (k_here; refine Hold.go ?_))
  (k_with "znz fit" => (first | with_reducible assumption | exact fit_row (by with_reducible assumption) (by with_reducible assumption) | exact lt_len (by with_reducible assumption) (by with_reducible assumption) | omega | ((try simp only [List.length_map, List.length_cons, List.length_nil, List.size_toArray]); omega)))
  (k_with "zcall builtin:len" => (k_here; (with_reducible show wpAny _ _ (call (Value.builtin "len") [Value.ref _]) _ _ _); k_dflt (refine' nz_len ?q11N ?q11m ?q11f ?_; (case q11N => k_asm); (case q11m => k_mem); (case q11f => walk_at "nz fit"); k_whole)))
  (k_with "zsubscriptTail" => (k_here; (with_reducible show wpAny _ _ (subscriptTail _ _ (Value.ref _) (Value.int _ _)) _ _ _); k_dflt (refine' nz_item ?q12N ?q12m ?q12a ?q12b ?q12f ?_ ?q12k; (case q12N => k_asm); (case q12m => k_mem); (case q12a | q12b | q12f => walk_at "nz fit"); (case q12k => with_unfolding_all rfl); k_whole); intro vpq12 hvpq12))
  (k_with "zexecs cons" => (k_here; first | k_gentoks | (k_made; walk_at "execs cons") | (with_reducible refine cut_cons fun qk hqk => ?_)))
  (k_with "zQEnd" => (refine' behind_go ?q14h ?_; (case q14h => with_reducible assumption); dsimp only))
  (k_with "zeval Name" => (k_here; (with_reducible show wpAny _ _ (eval (Expr.Name _ _) (compEnvC _ _ _ _)) _ _ _); k_dflt (first | refine LCgL.ld_own (by k_asm) (by k_mem) (by assumption) (by assumption) ?_ | refine kcf_cell (by k_asm) (by rfl) (by k_mem) (by k_asm) ?_ | refine LCgL.ld_global (by k_asm) (by k_asm) (by k_asm) (by k_is) ?_ | refine LCgL.ld_built (by k_asm) (by k_asm) (by k_asm) (by k_is) (by boot_by_name) (by decide) ?_ | refine Hold.go ?_)))
  (k_with "zCompEnd" => (k_here; refine Hold.go ?_))
  (k_with "zCompSrc" => (k_here; refine Hold.go ?_))
  (k_with "znz sub" => first | with_reducible assumption | exact fun _ h => h | (intro p9q22 hp9q22; walk_at "nz in") | (intro p9q22 hp9q22; k_mem))
  (k_with "znz item" => (k_here; (with_reducible show wpAny _ _ (subscriptTail _ _ (Value.ref _) (Value.int _ _)) _ _ _); k_dflt (first | (refine' mat_item ?q23N ?q23m ?q23s ?q23a ?q23b ?q23f ?_ ?q23k; (case q23m => with_reducible assumption); (case q23N => k_asm); (case q23s => walk_at "nz sub"); (case q23a | q23b | q23f => walk_at "nz fit"); (case q23k => with_unfolding_all rfl); k_whole; intro bpq23 rowpq23 hrowpq23 hbrpq23; (try (have hlpq23 := Mat.getRow (by with_reducible assumption) hrowpq23))) | (refine' row_item ?q23N ?q23m ?q23s ?q23a ?q23b ?q23f ?_ ?q23k; (case q23m => with_reducible assumption); (case q23N => k_asm); (case q23s => walk_at "nz sub"); (case q23a | q23b | q23f => walk_at "nz fit"); (case q23k => with_unfolding_all rfl); k_whole; intro ipq23 tpq23 hipq23))))
  (k_with "zsubscriptTail" => walk_at "nz item")
  (k_with "zcall builtin:len" => (k_here; (with_reducible show wpAny _ _ (call (Value.builtin "len") [Value.ref _]) _ _ _); k_dflt (first | (refine' mat_len ?q25N ?q25m ?q25s ?q25f ?_; (case q25m => with_reducible assumption); (case q25N => k_asm); (case q25s => walk_at "nz sub"); (case q25f => walk_at "nz fit"); k_whole) | (refine' row_len ?q25N ?q25m ?q25s ?q25f ?_; (case q25m => with_reducible assumption); (case q25N => k_asm); (case q25s => walk_at "nz sub"); (case q25f => walk_at "nz fit"); k_whole))))
  (k_with "zcompareOp Eq ref ref" => (k_here; k_dflt (refine' mat_eq ?q26N ?q26a ?q26b ?q26c ?q26d ?q26u ?_; (case q26a | q26c => with_reducible assumption); (case q26N => k_asm); (case q26b | q26d => walk_at "nz sub"); (case q26u => walk_at "nz units"); k_whole)))
  (k_with "zcompareOp NotEq ref ref" => (k_here; k_dflt (refine' mat_ne ?q27N ?q27a ?q27b ?q27c ?q27d ?q27u ?_; (case q27a | q27c => with_reducible assumption); (case q27N => k_asm); (case q27b | q27d => walk_at "nz sub"); (case q27u => walk_at "nz units"); k_whole)))
  (k_with "zcall type:list" => (k_here; (with_reducible show wpAny _ _ (call (Value.type _) [Value.ref _]) _ _ _); k_dflt (refine' row_copy ?q29F ?q29N ?q29m ?q29s ?q29f ?_; (case q29m => with_reducible assumption); (case q29F | q29N => k_asm); (case q29s => walk_at "nz sub"); (case q29f => walk_at "nz fit"); k_whole); intro Dpq29 opq29 hpq29 Fpq29 Npq29 l1pq29 hDpq29; (have nzqpq29 := l1pq29); (k_lt l1pq29); (try k_sweep); (try dsimp only)))
  (k_with "zsubscriptTail Name Slice ref ref" => (k_here; (with_reducible show wpAny _ _ (subscriptTail _ (PySem.Expr.Slice none none (some _) _) (Value.ref _) (Value.ref _)) _ _ _); k_dflt (first | (refine' row_rev ?q30F ?q30N ?q30m ?q30s ?q30f ?q30k ?_ ?q30e ?q30t; (case q30m => with_reducible assumption); (case q30F | q30N => k_asm); (case q30s => walk_at "nz sub"); (case q30f => walk_at "nz fit"); (case q30k => exact IsPart.int _ _); (case q30e => with_unfolding_all rfl); (case q30t => kmk_pure)) | (refine' mat_rev ?q30F ?q30N ?q30m ?q30s ?q30f ?q30k ?_ ?q30e ?q30t; (case q30m => with_reducible assumption); (case q30F | q30N => k_asm); (case q30s => walk_at "nz sub"); (case q30f => walk_at "nz fit"); (case q30k => exact IsPart.int _ _); (case q30e => with_unfolding_all rfl); (case q30t => kmk_pure))); intro Dpq30 opq30 hpq30 Fpq30 Npq30 l1pq30 hDpq30; (have nzqpq30 := l1pq30); (k_lt l1pq30); (try k_sweep); (try dsimp only)))
  (k_with "zEltEnd" => (k_here; refine Hold.go ?_))
  (k_with "zTurnC" => (k_here; refine Hold.go ?_))
  (k_with "zpyIter ref" => (k_here; refine Hold.go ?_))
  (k_with "zTurnU" => (k_here; refine Hold.go ?_))
  (k_with "zexec For Name Call cons nil" => (k_here; k_dflt (refine wpAny_For ?_)))
  (k_with "zexec For" => (k_here; k_dflt (refine wpAny_For ?_)))
  (k_with "zcompareOp Eq ref ref" => (k_here; k_dflt (refine' mat_eqNil ?q40N ?q40a ?q40b ?q40c ?q40u ?_; (case q40a => with_reducible assumption); (case q40N => k_asm); (case q40b => walk_at "nz sub"); (case q40c => k_mem); (case q40u => walk_at "nz units"); k_whole)))
  (k_with "zcompareOp Eq ref ref" => (k_here; k_dflt (refine' mat_neNil ?q41N ?q41a ?q41b ?q41e ?q41c ?q41u ?_; (case q41a | q41e => with_reducible assumption); (case q41N => k_asm); (case q41b => walk_at "nz sub"); (case q41c => k_mem); (case q41u => walk_at "nz units"); k_whole)))
  (k_with "zcompareOp Eq ref ref" => (k_here; k_dflt (refine' mat_eq ?q42N ?q42a ?q42b ?q42c ?q42d ?q42u ?_; (case q42a | q42c => with_reducible assumption); (case q42N => k_asm); (case q42b | q42d => walk_at "nz sub"); (case q42u => walk_at "nz units"); k_whole)))
  (k_with "zexec Raise" => (k_here; refine Hold.go ?_))
  (k_with "znz dec" => ((try simp only [beq_iff_eq, bne_iff_ne, decide_eq_true_eq, ne_eq, Bool.not_eq_true', Bool.not_eq_true]); omega))
  (k_with "zite" => (k_here; k_dflt (first | refine ite_pos (by walk_at "nz dec") ?_ | refine ite_neg (by walk_at "nz dec") ?_)))
  (k_with "znz subs" => first | walk_at "nz item" | (k_here; k_dflt (first | ((with_reducible show wpAny _ _ (subscriptTail _ _ (Value.ref _) (Value.int 0 _)) _ _ _); refine' nz_pair0 ?q48N ?q48m ?_ ?q48k; (case q48N => k_asm); (case q48m => k_mem); (case q48k => with_unfolding_all rfl); k_whole) | ((with_reducible show wpAny _ _ (subscriptTail _ _ (Value.ref _) (Value.int 1 _)) _ _ _); refine' nz_pair1 ?q48N ?q48m ?_ ?q48k; (case q48N => k_asm); (case q48m => k_mem); (case q48k => with_unfolding_all rfl); k_whole))))
  (k_with "zsubscriptTail Name" => walk_at "nz subs")
  (k_with "zsubscriptTail Subscript" => walk_at "nz subs")
  (k_with "zSrcK" => (k_here; refine Hold.go ?_))
  (k_with "zgetAttr ref" => (k_here; k_dflt (first | ((with_reducible show wpAny _ _ (getAttr (Value.ref _) (Str.ofString "rows") true) _ _ _); refine' pl_rows ?q60F ?q60X ?q60N ?q60hp ?q60s ?_; (case q60hp => with_reducible assumption); (case q60F | q60X | q60N => k_asm); (case q60s => walk_at "nz sub"); k_whole) | ((with_reducible show wpAny _ _ (getAttr (Value.ref _) (Str.ofString "width") true) _ _ _); refine' pl_width ?q60F ?q60X ?q60N ?q60hp ?q60s ?_; (case q60hp => with_reducible assumption); (case q60F | q60X | q60N => k_asm); (case q60s => walk_at "nz sub"); k_whole; intro wtpq60) | ((with_reducible show wpAny _ _ (getAttr (Value.ref _) (Str.ofString "height") true) _ _ _); refine' pl_height ?q60F ?q60X ?q60N ?q60hp ?q60s ?_; (case q60hp => with_reducible assumption); (case q60F | q60X | q60N => k_asm); (case q60s => walk_at "nz sub"); k_whole; intro wtpq60)); (try dsimp only)))
  (k_with "zexec Raise some none" => (k_here; refine Hold.go ?_))
  (k_with "zRaiseEnd" => (k_here; refine Hold.go ?_))
  (k_with "zTurnZ" => (k_here; refine Hold.go ?_))
  (k_with "zEltRow" => (k_here; refine Hold.go ?_))
  (k_with "zbinaryOp Add ref ref" => (k_here; (with_reducible show wpAny _ _ (binaryOp _ (Value.ref _) (Value.ref _)) _ _ _); k_dflt (refine' row_add ?q96F ?q96N ?q96b ?q96s ?q96c ?q96f ?_; (case q96b => with_reducible assumption); (case q96F | q96N => k_asm); (case q96s => walk_at "nz sub"); (case q96c => k_mem); (case q96f => walk_at "nz fit"); k_whole); intro Dpq96 opq96 hpq96 Fpq96 Npq96 l1q96 hdpq96; (have nzqpq96 := l1q96); (try (k_lt l1q96)); (try k_sweep)))
  (k_with "zcall builtin:max" => (k_here; (with_reducible show wpAny _ _ (call (Value.builtin _) [Value.int _ _, Value.int _ _, Value.int _ _]) _ _ _); k_dflt (refine' max3_N ?q97h ?q97F ?q97N ?_; (case q97h => exact rfl); (case q97F | q97N => k_asm); k_whole); intro ypq97 hpq97 tkpq97 Fpq97 Npq97))
  (k_with "znz room" => decide)
  (k_with "znz units" => decide)
  (k_with "zcall ref" => (k_here; k_dflt (refine' plane_t ?q109B ?q109F ?q109X ?q109T ?q109hf ?q109hk ?q109N ?q109hd ?q109hu ?_; (case q109B | q109F | q109X | q109T => k_asm); (case q109hf | q109hk => first | assumption | exact rfl); (case q109N => k_asm); (case q109hd => walk_at "nz room"); (case q109hu => walk_at "nz units"); k_whole); intro xpq109 tlpq109 hpq109 tkpq109 hxpq109 hapq109 Fpq109 Npq109; (try k_sweep); (try dsimp only)))
  (k_with "zsetItem ref int" => (k_here; refine Hold.go ?_))
  (k_with "zsubscriptTail Attribute" => (k_here; (with_reducible show wpAny _ _ (subscriptTail _ _ (Value.ref _) (Value.int _ _)) _ _ _); k_dflt (refine' mat_item2 ?q111N ?q111m ?q111s ?q111a ?q111b ?q111f ?_ ?q111k; (case q111m => with_reducible assumption); (case q111N => k_asm); (case q111s => walk_at "nz sub"); (case q111a | q111b | q111f => walk_at "nz fit"); (case q111k => with_unfolding_all rfl); k_whole; intro bpq111 rowpq111 hbbpq111 hrowpq111 hbrpq111; (try (have hlpq111 := Mat.getRow (by with_reducible assumption) hrowpq111)))))
  (k_with "zeval Name" => (k_here; k_dflt (refine' nz_local ?q112F ?q112hx ?_ ?q112hL ?q112hk ?q112hl ?q112hd; (case q112F => k_asm); (case q112hl => exact rfl); (case q112hx => first | with_reducible assumption | exact if_pos rfl | (refine (if_neg (by decide)).trans ?_; first | with_reducible assumption | exact if_pos rfl | (refine (if_neg (by decide)).trans ?_; first | with_reducible assumption | exact if_pos rfl | (refine (if_neg (by decide)).trans ?_; first | with_reducible assumption | exact if_pos rfl | (refine (if_neg (by decide)).trans ?_; first | with_reducible assumption | exact if_pos rfl))))); (case q112hL | q112hk => exact rfl); (case q112hd => decide); k_whole)))
  (k_with "zeval Lambda" => (k_here; refine Hold.go ?_))
  trivial

theorem law_holds : PySem.Challenge.rw_nz0241_01.Holds := hd (by
  k_go0
  (all_goals try k_fold)
  with_reducible refine anyE fun EE => ?_
  (rename CodeHd _ 190 188 => c1)
  (rename CodeHd _ 185 183 => c2)
  have hC190 : Hold (CodeHd _ 190 188) := c1
  have hC185 : Hold (CodeHd _ 185 183) := c2
  clear c1 c2
  (rename Below callerA _ _ _ => B0)
  (rename Frag.In _ _ => X0)
  (rename Top topProg _ _ _ _ _ => T0)
  (rename Fr _ _ _ _ => F0)
  (rename News _ _ _ _ => N0)
  (rename Heap.IsList (ghostOf _ _) _ _ => hL0)
  (rename IntsAre _ _ => hI0)
  (rename Shared => s1)
  obtain ⟨R0, ob, oc, hR0, N0, ⟨vb, dcb⟩, ⟨vc, dcc⟩⟩ : ∃ (R0 : List (Addr × Obj)) (ob oc : Obj), R0 = [] ∧ News _ _ _ ((s1.heap.objs.size + 1 + 1, ob) :: (s1.heap.objs.size + 1, oc) :: (183, tabObj #[]) :: (188, tabObj #[]) :: R0) ∧ (∃ v, ob.data = .cell v) ∧ ∃ v, oc.data = .cell v := ⟨_, _, _, rfl, N0, ⟨_, by assumption⟩, ⟨_, by assumption⟩⟩
  k_steps
  unfold Hold
  refine wpAny_call ?_
  show codeAny (model PySem.Challenge.pw_nz0241_01 _) (nzA _ _ _ _ _) _ _ _
  k_dflt (refine' pool_t B0 ?F X0 T0 rfl rfl ?N hL0 hI0 (by omega) ?hd ?hu ?_)
  case F => k_asm
  case N => k_asm
  case hd => decide
  case hu => decide
  intro src o1 h1 tk1 hS1 F1 N1 l1
  (try dsimp only)
  replace l1 := allLt_all l1
  k_lt l1
  try clear hR0
  k_steps
  unfold Hold
  refine wpAny_call ?_
  show codeAny (model PySem.Challenge.pw_nz0241_01 _) (nzA _ _ _ _ _) _ _ _
  k_dflt (refine' rows_t B0 ?F X0 T0 rfl rfl ?N ?U hS1 ?hd ?hu ?_)
  case F => k_asm
  case N => k_asm
  case U => k_updF
  case hd => decide
  case hu => decide
  intro M W r tl o2 h2 tk2 hm1 hm2 hw1 hw2 hrow ha hM hS2 U2 K2 F2 N2
  (try dsimp only)
  (try dsimp only at N2 U2 K2)
  have hMat : Mat M W M.length := ⟨by omega, by omega, by omega, by omega, rfl, fun row h => by rw [hrow row h]⟩
  obtain ⟨q1, q2, q3, q4, q5, q6⟩ := id hMat
  have hne := hMat.ne
  have t1 : ∀ p ∈ tl, p.1 ≠ s1.heap.objs.size + 1 + 1 := fun p hp => ha p hp _ (.tail _ (.head _))
  have t2 : ∀ p ∈ tl, p.1 ≠ s1.heap.objs.size + 1 := fun p hp => ha p hp _ (.tail _ (.tail _ (.head _)))
  have t3 : ∀ p ∈ tl, p.1 ≠ src := fun p hp => ha p hp _ (.head _)
  have t4 : ∀ p ∈ tl, p.1 ≠ 183 := fun p hp => ha p hp ((183 : Addr), tabObj #[]) (.tail _ (.tail _ (.tail _ (.head _))))
  have t5 : ∀ p ∈ tl, p.1 ≠ 188 := fun p hp => ha p hp ((188 : Addr), tabObj #[]) (.tail _ (.tail _ (.tail _ (.tail _ (.head _)))))
  replace N2 : News _ _ h2 ((s1.heap.objs.size + 1 + 1, ob) :: (s1.heap.objs.size + 1, oc) :: (src, o2) :: (183, tabObj #[]) :: (188, tabObj #[]) :: tl) := newsSub N2 (by
    intro p hp
    simp only [List.mem_cons, List.mem_append] at hp ⊢
    rcases hp with h | h | h | h | h | h <;> simp [h])
  clear ha U2 K2
  k_steps
  (rename PlIn _ _ _ _ _ => hx9)
  (rename Apart _ _ => ha9)
  (rename News _ _ _ _ => N9)
  (rename (((List.length _ : Nat) : Int) = ((W : Nat) : Int)) => hl9)
  rw [hl9] at hx9
  obtain ⟨R1, kt, kl, t1, t2, t3, t4, t5, N9⟩ := grow5 ha9 N9 t1 t2 t3 t4 t5
  replace hx9 := hx9.mono kt
  replace hM := hM.mono kl
  clear kt kl ha9
  unfold Hold
  k_dflt (refine LCg.ListComp_U (F₀ := by k_asm) (by with_unfolding_all rfl) (by decide) (by rfl) (by decide) (by rfl) ?_)
  k_steps
  unfold Hold
  (rename News _ _ _ _ => N8)
  k_dflt (refine src_mat rowD (by rfl) (by k_asm) N8 hM (by walk_at "nz sub") (by omega) ?_ ?_)
  · intro g2 i2 tl2 b2 row2 I2 oI2 C2 oC2 D2 oD2 m2 h2 tk3 E2 hrow2 hb2 hC2 hx2 F2 N2 off2 ne2 ha2
    have hl2 := hMat.getRow hrow2
    k_steps
    exact Hold.out (eltEnd_one (by k_asm) (by k_asm) (by assumption) (by assumption))
  intro g2 ys2 tl2 hyl2 hds2 hap2
  intro D2 h2 tk2 F2 N2 off2
  obtain ⟨hD2, hA2⟩ := comp_fin hds2 hap2 off2
  obtain ⟨R2, kt, kl, t1, t2, t3, t4, t5, N2⟩ := grow5 hA2 N2 t1 t2 t3 t4 t5
  replace hx9 := hx9.mono kl
  replace hM := hM.mono kl
  replace hD2 : DatIn R2 (.ref D2) (matD M) := hD2.mono kt
  clear kt kl hA2 hds2 hap2 off2
  k_steps
  unfold Hold
  refine wpAny_call ?_
  show codeAny (model PySem.Challenge.pw_nz0241_01 _) (nzA _ _ _ _ _) _ _ _
  k_dflt (refine' one_t B0 ?F X0 T0 rfl rfl ?N ?U hS2 ?hth ?hne ?ht ?ht2 ?hd ?hu ?_)
  case F => k_asm
  case N => k_asm
  case U => k_updF
  case hth => k_mem
  case hne => k_ne
  case ht => simp
  case ht2 => simp
  case hd => decide
  case hu => decide
  intro i3 v3 o3 h3 tk3 hiv hS3 U3 K3 F3 N3
  (try dsimp only)
  (try dsimp only at N3)
  obtain ⟨wd, tw, rfl, hwd⟩ := strs8 hiv
  clear hiv U3 K3
  obtain ⟨x0, op, N3, dop, hp⟩ : ∃ x0 op, News _ _ h3 ((s1.heap.objs.size + 1 + 1, op) :: (s1.heap.objs.size + 1, oc) :: (src, o3) :: (183, tabObj #[]) :: (188, tabObj #[]) :: R2) ∧ op.data = .cell (some (.ref x0)) ∧ PlIn R2 x0 W M.length r := ⟨_, _, newsSub N3 fun p hp => .tail _ (.tail _ hp), by assumption, hx9⟩
  k_steps
  unfold Hold
  refine wpAny_call ?_
  show codeAny (model PySem.Challenge.pw_nz0241_01 _) (nzA _ _ _ _ _) _ _ _
  k_dflt (refine' isTurned_t B0 ?F X0 T0 rfl rfl ?N hp ?s1 hM ?s2 hMat hwd ?hd ?hu ?_)
  case F => k_asm
  case N => k_asm
  case s1 => walk_at "nz sub"
  case s2 => walk_at "nz sub"
  case hd => decide
  case hu => decide
  intro h4 tk4 F4 N4
  (try dsimp only)
  k_steps
  unfold Hold
  refine wpAny_call ?_
  show codeAny (model PySem.Challenge.pw_nz0241_01 _) (nzA _ _ _ _ _) _ _ _
  k_dflt (refine' cutRight_t B0 ?F X0 T0 rfl rfl ?N ?U hS3 hp ?s1 hM ?s2 hMat ?hd ?hu ?_)
  case F => k_asm
  case N => k_asm
  case U => k_updF
  case s1 => exact fun p hp => ⟨by walk_at "nz in", t3 p hp⟩
  case s2 => exact fun p hp => ⟨by walk_at "nz in", t3 p hp⟩
  case hd => decide
  case hu => decide
  intro o4 h5 tk5 hS4 U5 K5 F5 N5
  (try dsimp only)
  (try dsimp only at N5)
  clear U5 K5
  k_steps
  unfold Hold
  refine wpAny_call ?_
  show codeAny (model PySem.Challenge.pw_nz0241_01 _) (nzA _ _ _ _ _) _ _ _
  obtain ⟨R3, hR3⟩ : ∃ R3, R3 = (s1.heap.objs.size + 1 + 1, op) :: (s1.heap.objs.size + 1, oc) :: (188, tabObj #[]) :: R2 := ⟨_, rfl⟩
  have u0 : ∀ p ∈ R2, p ∈ R3 := by subst hR3; exact fun p hp => .tail _ (.tail _ (.tail _ hp))
  have u1 : ∀ p ∈ R3, p.1 ≠ src := by
    subst hR3; intro p hp
    simp only [List.mem_cons] at hp
    rcases hp with rfl | rfl | rfl | hp
    · show @Ne Nat _ _; omega
    · show @Ne Nat _ _; omega
    · show @Ne Nat _ _; omega
    · exact t3 p hp
  have u2 : ∀ p ∈ R3, p.1 ≠ 183 := by
    subst hR3; intro p hp
    simp only [List.mem_cons] at hp
    rcases hp with rfl | rfl | rfl | hp
    · show @Ne Nat _ _; omega
    · show @Ne Nat _ _; omega
    · show @Ne Nat _ _; omega
    · exact t4 p hp
  have N5 : News _ _ h5 ((src, o4) :: (183, tabObj #[]) :: R3) := newsSub N5 (by
    subst hR3; intro p hp
    simp only [List.mem_cons] at hp ⊢
    rcases hp with h | h | h | h | h | h <;> simp [h])
  k_dflt (refine' apartRight_t B0 ?F X0 T0 rfl rfl X0 T0 hC185 N5 u1 u2 (by show @Ne Nat _ _; omega) hS4 (hp.mono u0) (hM.mono u0) hMat ?hd ?hu ?_)
  case F => k_asm
  case hd => decide
  case hu => decide
  intro g6 o6 ps6 h6 tk6 hS6 T6 F6 N6 B6
  replace F6 := turn_fr T6 F6
  replace N6 := turn_news T6 N6
  (try dsimp only)
  replace N6 : News _ _ h6 ((s1.heap.objs.size + 1 + 1, op) :: (s1.heap.objs.size + 1, oc) :: (src, o6) :: (183, tabObj ps6) :: (188, tabObj #[]) :: R2) := newsSub N6 (by
    subst hR3; intro p hp
    simp only [List.mem_cons] at hp ⊢
    rcases hp with h | h | h | h | h | h <;> simp [h])
  clear T6 B6 N5 u0 u1 u2 hR3
  k_steps
  unfold Hold
  refine wpAny_call ?_
  show codeAny (model PySem.Challenge.pw_nz0241_01 _) (nzA _ _ _ _ _) _ _ _
  k_dflt (refine' one_t B0 ?F X0 T0 rfl rfl ?N ?U hS6 ?hth ?hne ?ht ?ht2 ?hd ?hu ?_)
  case F => k_asm
  case N => k_asm
  case U => k_updF
  case hth => k_mem
  case hne => k_ne
  case ht => simp
  case ht2 => simp
  case hd => decide
  case hu => decide
  intro i7 v7 o7 h7 tk7 hiv hS7 U7 K7 F7 N7
  (try dsimp only)
  (try dsimp only at N7)
  obtain ⟨T9, ao, Mb, hT9, rfl, hMb, hbad, N7⟩ := odd_at N7 hiv
  clear hiv U7 K7
  have vv : ∀ p ∈ T9, p.1 ≠ s1.heap.objs.size + 1 + 1 ∧ p.1 ≠ s1.heap.objs.size + 1 ∧ p.1 ≠ src ∧ p.1 ≠ 183 ∧ p.1 ≠ 188 := by
    subst hT9; intro p hp
    simp only [List.mem_cons, List.not_mem_nil, or_false] at hp
    rcases hp with rfl | rfl | rfl | rfl | rfl | rfl | rfl | rfl | rfl | rfl
    all_goals (refine ⟨?_, ?_, ?_, ?_, ?_⟩ <;> (show @Ne Nat _ _; omega))
  obtain ⟨R4, kt, kl, t1, t2, t3, t4, t5, N7⟩ := grow5b N7 (fun p h => (vv p h).1) (fun p h => (vv p h).2.1) (fun p h => (vv p h).2.2.1) (fun p h => (vv p h).2.2.2.1) (fun p h => (vv p h).2.2.2.2) t1 t2 t3 t4 t5
  replace hp := hp.mono kl
  replace hM := hM.mono kl
  replace hD2 := hD2.mono kl
  replace hMb := hMb.mono kt
  clear kt kl vv hT9
  k_steps
  unfold Hold
  k_dflt (refine' kla_eval ?d0 ?_; (case d0 => exact rfl))
  k_dflt (refine' kla_nest ?F ?N ?T ?C ?cd ?U ?t ?n ?cl ?_; (case F => k_asm); (case N => k_asm); (case T => k_asm); (case cd => exact rfl); (case C => exact CodeHd.keeps hC190 (Below.stays B0)); (case U => k_updF); (case t => kn_triples); (case n => kn_among); (case cl => exact rfl); k_whole)
  intro f9 c9 oc9 vs9 t9 ct9 h9 tk9 FL NL dl1 dl2 ll1 ll2
  (try dsimp only at NL)
  k_steps
  unfold Hold
  refine wpAny_call ?_
  show codeAny (model PySem.Challenge.pw_nz0241_01 _) (nzA _ _ _ _ _) _ _ _
  k_dflt (refine' refused_t B0 ?F X0 T0 rfl rfl X0 T0 NL ?D (.head _) ?hd ?hu ?_)
  case F => k_asm
  case hd => decide
  case hu => decide
  case D =>
    intro A₁ dp' un' env' outer' base' h₀' L' m' s' R' nl B' F' X' T' hf' hk' N' hs' hd' hu' raise'
    k_dflt (refine' kla_code B' F' X' N' T' rfl hf' hk' (hs' _ (.head _)) (codeRec_news N' (hs' _ (.tail _ (.head _))) dl1 dl2) ?k8 rfl (locs rfl) ?_ rfl rfl rfl (by decide))
    case k8 => walk_at "nz room"
    intro gg LL hh FGG FF N8 BB XX TT
    have N7 := newsSub (l' := _ ++ nl) N8 (fun p hp => (List.mem_append.mp hp).elim (hs' p) id)
    clear N8
    simp only [List.cons_append] at N7
    have C8 : CodeHd _ 190 188 := hC190
    k_steps
    clear C8
    unfold Hold
    refine wpAny_call ?_
    k_dflt (refine' planeOfBad_t BB (by k_asm) XX TT rfl rfl N7 hMb (by walk_at "nz sub") hbad.1 hbad.2.1 hbad.2.2 ?hd ?hu ?_)
    case hd => walk_at "nz room"
    case hu => walk_at "nz units"
    intro Bx ex tx dx' odx msgx hx' tkx hmd hmn Rx
    dsimp only
    exact leave_next Rx rfl FGG hf' rfl (fun p hp => by walk_at "nz in") fun h'' Ry => raise' _ _ _ _ _ _ _ _ hmd hmn Ry
  intro gT hT tkT TT FT NT BT
  replace FT := turn_fr TT FT
  replace NT := turn_news TT NT
  replace NT := newsSub NT fun p hp => .tail _ (.tail _ hp)
  clear TT BT NL ll1 ll2 dl1 dl2
  (try dsimp only)
  k_steps
  unfold Hold
  k_dflt (refine' kla_eval ?d0 ?_; (case d0 => exact rfl))
  k_dflt (refine' kla_nest ?F ?N ?T ?C ?cd ?U ?t ?n ?cl ?_; (case F => k_asm); (case N => k_asm); (case T => k_asm); (case cd => exact rfl); (case C => exact CodeHd.keeps hC190 (Below.stays B0)); (case U => k_updF); (case t => kn_triples); (case n => kn_among); (case cl => exact rfl); k_whole)
  intro f9 c9 oc9 vs9 t9 ct9 h9 tk9 FL NL dl1 dl2 ll1 ll2
  (try dsimp only at NL)
  k_steps
  unfold Hold
  refine wpAny_call ?_
  show codeAny (model PySem.Challenge.pw_nz0241_01 _) (nzA _ _ _ _ _) _ _ _
  k_dflt (refine' refused_t B0 ?F X0 T0 rfl rfl X0 T0 NL ?D (.head _) ?hd ?hu ?_)
  case F => k_asm
  case hd => decide
  case hu => decide
  case D =>
    intro A₁ dp' un' env' outer' base' h₀' L' m' s' R' nl B' F' X' T' hf' hk' N' hs' hd' hu' raise'
    k_dflt (refine' kla_code B' F' X' N' T' rfl hf' hk' (hs' _ (.head _)) (codeRec_news N' (hs' _ (.tail _ (.head _))) dl1 dl2) ?k8 rfl (locs rfl) ?_ rfl rfl rfl (by decide))
    case k8 => walk_at "nz room"
    intro gg LL hh FGG FF N8 BB XX TT
    have N7 := newsSub (l' := _ ++ nl) N8 (fun p hp => (List.mem_append.mp hp).elim (hs' p) id)
    clear N8
    simp only [List.cons_append] at N7
    have C8 : CodeHd _ 190 188 := hC190
    k_steps
    clear C8
    unfold Hold
    refine wpAny_call ?_
    k_dflt (refine' turnedTwist_t BB (by k_asm) XX TT rfl rfl N7 hp (by walk_at "nz sub") hM (by walk_at "nz sub") hMat twTr twMi twFl twSt ?hd ?hu ?_)
    case hd => walk_at "nz room"
    case hu => walk_at "nz units"
    intro Bx ex tx dx' odx msgx hx' tkx hmd hmn Rx
    dsimp only
    exact leave_next Rx rfl FGG hf' rfl (fun p hp => by walk_at "nz in") fun h'' Ry => raise' _ _ _ _ _ _ _ _ hmd hmn Ry
  intro gT hT tkT TT FT NT BT
  replace FT := turn_fr TT FT
  replace NT := turn_news TT NT
  replace NT := newsSub NT fun p hp => .tail _ (.tail _ hp)
  clear TT BT NL ll1 ll2 dl1 dl2
  (try dsimp only)
  k_steps
  unfold Hold
  refine wpAny_call ?_
  show codeAny (model PySem.Challenge.pw_nz0241_01 _) (nzA _ _ _ _ _) _ _ _
  k_dflt (refine' plane_of2_t B0 ?F X0 T0 rfl rfl ?N hM ?s1 hMat ?hd ?hu ?_)
  case F => k_asm
  case N => k_asm
  case s1 => walk_at "nz sub"
  case hd => decide
  case hu => decide
  intro xm rm as tm hm tkm hpm hAm ham FM NM
  (try dsimp only)
  have hDm := hAm.dat
  k_steps
  unfold Hold
  (rename News _ _ _ _ => N9)
  (rename Fr _ _ _ _ => F9)
  (rename (as[_]? = some _) => hb9)
  (rename (M[_]? = some _) => hr9)
  (rename (((List.length _ : Nat) : Int) = ((W : Nat) : Int)) => hl9)
  k_dflt (refine mat_store F9 N9 hAm (by walk_at "nz sub") hb9 hr9 (by omega) (by omega) (by omega) ?_)
  intro oz hz hbm FZ NZ AZ
  obtain ⟨usb, nnb, hbm⟩ := hbm
  rw [updL_split hbm ham] at NZ
  clear N9 F9 hDm hpm hAm AZ
  k_steps
  k_dflt (refine' mat_eq NZ hM (by walk_at "nz sub") hD2 (by walk_at "nz sub") ?u ?_)
  case u => simp only [units_deeper, units_in1]; decide
  rw [decide_eq_true (rfl : M = M)]
  k_steps)
end Mine
theorem PySem.Challenge.cw_nz0241_01_holds : PySem.Challenge.rw_nz0241_01.Holds :=
  Mine.law_holds
