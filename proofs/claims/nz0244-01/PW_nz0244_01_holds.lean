import PyProof.Rows.All
import Wide.All
import OpenK.AllK
import Wide.FinOn
import Lean
import PySem.Challenge.RW_nz0244_01
open PySem PySem.W PySem.Spec PySem.Calls PyProof.Rows
set_option Elab.async false
set_option compiler.extract_closed false
namespace Mine
section
set_option linter.unusedVariables false
noncomputable abbrev PW : Program := PySem.Challenge.rw_nz0244_01.row.prog
-- the texts that the top's objects bear, told by their places in the program
noncomputable def fnAt (i : Nat) : List Stmt := (behindTheImports PW).drop i
noncomputable def stsAt (i n : Nat) : List Stmt := (fnAt i).take n
noncomputable def fnIn (i j : Nat) : List Stmt := match fnAt i with | .ClassDef _ _ _ b _ _ _ _ _ _ _ :: _ => b.drop j | _ => []
noncomputable def dA (l : List Stmt) : Arguments := match l with | .FunctionDef _ a _ _ _ _ _ _ _ _ :: _ => a | _ => ⟨[], [], none, [], [], none, []⟩
noncomputable def dB (l : List Stmt) : FuncBody := match l with | .FunctionDef _ _ b _ _ _ _ _ _ _ :: _ => .stmts b | _ => .stmts []
noncomputable def dS (l : List Stmt) : Scope := match l with | .FunctionDef _ _ _ _ _ _ s _ _ _ :: _ => s | _ => PW.main.scope
noncomputable def o43 : Obj := { cls := Value.type "tuple", data := Data.seq #[] }
noncomputable def o44 : Obj := { cls := Value.none, data := Data.fields #[] }
noncomputable def o45 : Obj := { cls := Value.type "code", data := Data.fields #[Value.str (Str.ofString "<module>") 182, Value.str (Str.ofString "<module>") 183, Value.str (Str.ofString "/claim/cut.py") 184, Value.int 1 0, Value.int 0 0, Value.int 0 0, Value.int 0 0, Value.int 0 0, Value.ref 11, Value.bool false, Value.int 181 0, Value.ref 12, Value.none, Value.none, Value.none, Value.none, Value.int 185 0, Value.int 1 0, Value.str (Str.ofString "/claim/cut.py") 186] }
noncomputable def o46 : Obj := { cls := Value.type "frame", slots := #[some (Value.ref 13), some (Value.ref 3), some (Value.ref 3), none, some (Value.str (Str.ofString "__main__") 164), none, some (Value.ref 0)] }
noncomputable def heap46 (P : Params) : Heap := { objs := { toList := [boot_o_0 P, boot_o_1 P, boot_o_2 P, boot_o_3 P, boot_o_4 P, boot_o_5 P, boot_o_6 P, boot_o_7 P, boot_o_8 P, boot_o_9 P, boot_o_10 P, o43, o44, o45, o46] } }
noncomputable def tree47 (P : Params) : BT := .node (boot_o_0 P) (.node (boot_o_1 P) (.node (boot_o_3 P) (.node (boot_o_7 P) .nil .nil) (.node o43 .nil .nil)) (.node (boot_o_5 P) (.node (boot_o_9 P) .nil .nil) (.node o45 .nil .nil))) (.node (boot_o_2 P) (.node (boot_o_4 P) (.node (boot_o_8 P) .nil .nil) (.node o44 .nil .nil)) (.node (boot_o_6 P) (.node (boot_o_10 P) .nil .nil) (.node o46 .nil .nil)))
noncomputable def o49 (P : Params) : Obj := { cls := Value.none, data := Data.dict #[{ hash := PyData.keyHash P (Str.ofString "type.__subclasses__.Exception.0"), key := Value.str (Str.ofString "type.__subclasses__.Exception.0") 221, val := Value.int 38 0 }, { hash := PyData.keyHash P (Str.ofString "type.__subclasses__.Exception.n"), key := Value.str (Str.ofString "type.__subclasses__.Exception.n") 222, val := Value.int 1 0 }] 2 }
noncomputable def o50 (P : Params) : Obj := { cls := Value.type "dict", data := Data.dict #[{ hash := PyData.keyHash P (Str.ofString "__name__"), key := Value.str (Str.ofString "__name__") 165, val := Value.str (Str.ofString "pixelpress.errors") 194 }, { hash := PyData.keyHash P (Str.ofString "__doc__"), key := Value.str (Str.ofString "__doc__") 166, val := Value.none }, { hash := PyData.keyHash P (Str.ofString "__package__"), key := Value.str (Str.ofString "__package__") 167, val := Value.none }, { hash := PyData.keyHash P (Str.ofString "__loader__"), key := Value.str (Str.ofString "__loader__") 168, val := Value.builtin "__main__.__loader__#opaque" }, { hash := PyData.keyHash P (Str.ofString "__spec__"), key := Value.str (Str.ofString "__spec__") 169, val := Value.none }, { hash := PyData.keyHash P (Str.ofString "__annotations__"), key := Value.str (Str.ofString "__annotations__") 170, val := Value.ref 6 }, { hash := PyData.keyHash P (Str.ofString "__builtins__"), key := Value.str (Str.ofString "__builtins__") 171, val := Value.ref 4 }, { hash := PyData.keyHash P (Str.ofString "__file__"), key := Value.str (Str.ofString "__file__") 173, val := Value.str (Str.ofString "/claim/cut.py") 172 }, { hash := PyData.keyHash P (Str.ofString "__cached__"), key := Value.str (Str.ofString "__cached__") 174, val := Value.none }, { hash := PyData.keyHash P (Str.ofString "_wall"), key := Value.str (Str.ofString "_wall") 193, val := Value.ref 21 }, { hash := PyData.keyHash P (Str.ofString "PressError"), key := Value.str (Str.ofString "PressError") 224, val := Value.ref 38 }] 11 }
noncomputable def o51 : Obj := { cls := Value.none, data := Data.fields #[Value.int 1 0, Value.int 0 0, Value.ref 20, Value.int 5 0, Value.int 0 0, Value.ref 27] }
noncomputable def o54 : Obj := { cls := Value.type "tuple", data := Data.seq #[Value.str (Str.ofString "k") 190] }
noncomputable def o56 : Obj := { cls := Value.none, data := Data.func { name := Str.ofString "_wall", qualname := Str.ofString "_wall", params := dA (fnAt 0), body := dB (fnAt 0), scope := dS (fnAt 0), globals := 0, closure := [], defaults := Value.none, kwdefaults := Value.none } }
noncomputable def o57 : Obj := { cls := Value.type "code", data := Data.fields #[Value.str (Str.ofString "_wall") 187, Value.str (Str.ofString "_wall") 188, Value.str (Str.ofString "/claim/cut.py") 189, Value.int 1 0, Value.int 1 0, Value.int 0 0, Value.int 0 0, Value.int 3 0, Value.ref 15, Value.bool true, Value.int 181 0, Value.ref 16, Value.none, Value.ref 17, Value.ref 18, Value.ref 19, Value.int 191 0, Value.int 1 0, Value.str (Str.ofString "/claim/cut.py") 192] }
noncomputable def o58 : Obj := { cls := Value.type "function", data := Data.func { name := Str.ofString "_wall", qualname := Str.ofString "_wall", params := dA (fnAt 0), body := dB (fnAt 0), scope := dS (fnAt 0), globals := 3, closure := [], defaults := Value.none, kwdefaults := Value.none, pyModule := Value.str (Str.ofString "__main__") 164, code := Value.ref 20 } }
noncomputable def o59 : Obj := { cls := Value.type "tuple", data := Data.seq #[Value.type "Exception"] }
noncomputable def o60 : Obj := { cls := Value.type "builtin_function_or_method", data := Data.fields #[Value.builtin "type.__prepare__", Value.type "type"] }
noncomputable def o61 (P : Params) : Obj := { cls := Value.type "dict", data := Data.dict #[{ hash := PyData.keyHash P (Str.ofString "__module__"), key := Value.str (Str.ofString "__module__") 203, val := Value.str (Str.ofString "pixelpress.errors") 194 }, { hash := PyData.keyHash P (Str.ofString "__qualname__"), key := Value.str (Str.ofString "__qualname__") 205, val := Value.str (Str.ofString "PressError") 204 }, { hash := PyData.keyHash P (Str.ofString "__firstlineno__"), key := Value.str (Str.ofString "__firstlineno__") 207, val := Value.int 5 206 }, { hash := PyData.keyHash P (Str.ofString "__init__"), key := Value.str (Str.ofString "__init__") 215, val := Value.ref 35 }, { hash := PyData.keyHash P (Str.ofString "__static_attributes__"), key := Value.str (Str.ofString "__static_attributes__") 217, val := Value.ref 36 }] 5 }
noncomputable def o63 : Obj := { cls := Value.none, data := Data.fields #[Value.int 7 0, Value.int 4 0, Value.ref 34] }
noncomputable def o64 : Obj := { cls := Value.type "code", data := Data.fields #[Value.str (Str.ofString "PressError") 198, Value.str (Str.ofString "PressError") 199, Value.str (Str.ofString "/claim/cut.py") 200, Value.int 5 0, Value.int 0 0, Value.int 0 0, Value.int 0 0, Value.int 0 0, Value.ref 25, Value.bool false, Value.int 181 0, Value.ref 26, Value.none, Value.none, Value.none, Value.none, Value.int 201 0, Value.int 5 0, Value.str (Str.ofString "/claim/cut.py") 202] }
noncomputable def o65 : Obj := { cls := Value.type "frame", slots := #[some (Value.ref 27), some (Value.ref 3), some (Value.ref 24), none, some (Value.str (Str.ofString "pixelpress.errors") 194), none, some (Value.ref 0)] }
noncomputable def o68 : Obj := { cls := Value.type "tuple", data := Data.seq #[Value.str (Str.ofString "self") 211, Value.str (Str.ofString "message") 212] }
noncomputable def o70 : Obj := { cls := Value.none, data := Data.func { name := Str.ofString "__init__", qualname := Str.ofString "PressError.__init__", params := dA (fnIn 2 0), body := dB (fnIn 2 0), scope := dS (fnIn 2 0), globals := 0, closure := [], defaults := Value.none, kwdefaults := Value.none } }
noncomputable def o71 : Obj := { cls := Value.type "code", data := Data.fields #[Value.str (Str.ofString "__init__") 208, Value.str (Str.ofString "PressError.__init__") 209, Value.str (Str.ofString "/claim/cut.py") 210, Value.int 7 0, Value.int 2 0, Value.int 0 0, Value.int 0 0, Value.int 3 0, Value.ref 29, Value.bool true, Value.int 181 0, Value.ref 30, Value.none, Value.ref 31, Value.ref 32, Value.ref 33, Value.int 213 0, Value.int 7 0, Value.str (Str.ofString "/claim/cut.py") 214] }
noncomputable def o72 : Obj := { cls := Value.type "function", data := Data.func { name := Str.ofString "__init__", qualname := Str.ofString "PressError.__init__", params := dA (fnIn 2 0), body := dB (fnIn 2 0), scope := dS (fnIn 2 0), globals := 3, closure := [], defaults := Value.none, kwdefaults := Value.none, pyModule := Value.str (Str.ofString "pixelpress.errors") 194, code := Value.ref 34 } }
noncomputable def o73 : Obj := { cls := Value.type "tuple", data := Data.seq #[Value.str (Str.ofString "message") 216] }
noncomputable def o74 (P : Params) : Obj := { cls := Value.type "dict", data := Data.dict #[{ hash := PyData.keyHash P (Str.ofString "__module__"), key := Value.str (Str.ofString "__module__") 203, val := Value.str (Str.ofString "pixelpress.errors") 194 }, { hash := PyData.keyHash P (Str.ofString "__firstlineno__"), key := Value.str (Str.ofString "__firstlineno__") 207, val := Value.int 5 206 }, { hash := PyData.keyHash P (Str.ofString "__init__"), key := Value.str (Str.ofString "__init__") 215, val := Value.ref 35 }, { hash := PyData.keyHash P (Str.ofString "__static_attributes__"), key := Value.str (Str.ofString "__static_attributes__") 217, val := Value.ref 36 }, { hash := PyData.keyHash P (Str.ofString "__weakref__"), key := Value.str (Str.ofString "__weakref__") 219, val := Value.ref 39 }, { hash := PyData.keyHash P (Str.ofString "__doc__"), key := Value.str (Str.ofString "__doc__") 220, val := Value.none }] 3 }
noncomputable def o75 : Obj := { cls := Value.type "type", data := Data.cls { name := Str.ofString "PressError", bases := [Value.type "Exception"], mro := [Value.ref 38, Value.type "Exception", Value.type "BaseException", Value.type "object"], ns := 37, qualname := Str.ofString "PressError" }, slots := #[some (Value.ref 22), none, some (Value.str (Str.ofString "PressError") 196), some (Value.str (Str.ofString "PressError") 204), some (Value.builtin "Exception.__new__"), some (Value.bool true)] }
noncomputable def o76 : Obj := { cls := Value.type "getset_descriptor", data := Data.fields #[Value.str (Str.ofString "__weakref__") 218, Value.ref 38, Value.builtin "ExceptionGroup.__weakref__", Value.none] }
noncomputable def o77 : Obj := { cls := Value.type "super", data := Data.fields #[Value.ref 38, Value.ref 38, Value.ref 38] }
noncomputable def o78 : Obj := { cls := Value.type "builtin_function_or_method", data := Data.fields #[Value.builtin "object.__init_subclass__", Value.ref 38] }
noncomputable def tree78 (P : Params) : BT := .node (boot_o_0 P) (.node (boot_o_1 P) (.node (o50 P) (.node (boot_o_7 P) (.node o43 (.node o68 .nil .nil) .nil) (.node o60 (.node o76 .nil .nil) .nil)) (.node o43 (.node o56 (.node o72 .nil .nil) .nil) (.node o64 .nil .nil))) (.node (boot_o_5 P) (.node (boot_o_9 P) (.node o54 (.node o70 .nil .nil) .nil) (.node o43 (.node o78 .nil .nil) .nil)) (.node o45 (.node o58 (.node (o74 P) .nil .nil) .nil) (.node o43 .nil .nil)))) (.node (o49 P) (.node (boot_o_4 P) (.node (boot_o_8 P) (.node o44 (.node o43 .nil .nil) .nil) (.node (o61 P) (.node o77 .nil .nil) .nil)) (.node o51 (.node o57 (.node o73 .nil .nil) .nil) (.node o65 .nil .nil))) (.node (boot_o_6 P) (.node (boot_o_10 P) (.node o43 (.node o71 .nil .nil) .nil) (.node o63 .nil .nil)) (.node o46 (.node o59 (.node o75 .nil .nil) .nil) (.node o44 .nil .nil))))
noncomputable def o79 (P : Params) : Obj := { cls := Value.type "dict", data := Data.dict #[{ hash := PyData.keyHash P (Str.ofString "__name__"), key := Value.str (Str.ofString "__name__") 165, val := Value.str (Str.ofString "pixelpress.planes") 241 }, { hash := PyData.keyHash P (Str.ofString "__doc__"), key := Value.str (Str.ofString "__doc__") 166, val := Value.none }, { hash := PyData.keyHash P (Str.ofString "__package__"), key := Value.str (Str.ofString "__package__") 167, val := Value.none }, { hash := PyData.keyHash P (Str.ofString "__loader__"), key := Value.str (Str.ofString "__loader__") 168, val := Value.builtin "__main__.__loader__#opaque" }, { hash := PyData.keyHash P (Str.ofString "__spec__"), key := Value.str (Str.ofString "__spec__") 169, val := Value.none }, { hash := PyData.keyHash P (Str.ofString "__annotations__"), key := Value.str (Str.ofString "__annotations__") 170, val := Value.ref 6 }, { hash := PyData.keyHash P (Str.ofString "__builtins__"), key := Value.str (Str.ofString "__builtins__") 171, val := Value.ref 4 }, { hash := PyData.keyHash P (Str.ofString "__file__"), key := Value.str (Str.ofString "__file__") 173, val := Value.str (Str.ofString "/claim/cut.py") 172 }, { hash := PyData.keyHash P (Str.ofString "__cached__"), key := Value.str (Str.ofString "__cached__") 174, val := Value.none }, { hash := PyData.keyHash P (Str.ofString "_wall"), key := Value.str (Str.ofString "_wall") 193, val := Value.ref 21 }, { hash := PyData.keyHash P (Str.ofString "PressError"), key := Value.str (Str.ofString "PressError") 224, val := Value.ref 38 }, { hash := PyData.keyHash P (Str.ofString "RangeError"), key := Value.str (Str.ofString "RangeError") 240, val := Value.ref 51 }] 12 }
noncomputable def o80 : Obj := { cls := Value.none, data := Data.fields #[Value.int 1 0, Value.int 0 0, Value.ref 20, Value.int 5 0, Value.int 0 0, Value.ref 27, Value.int 10 0, Value.int 0 0, Value.ref 47] }
noncomputable def o81 : Obj := { cls := Value.type "type", data := Data.cls { name := Str.ofString "PressError", bases := [Value.type "Exception"], mro := [Value.ref 38, Value.type "Exception", Value.type "BaseException", Value.type "object"], ns := 37, qualname := Str.ofString "PressError", subclasses := [Value.ref 51] }, slots := #[some (Value.ref 22), none, some (Value.str (Str.ofString "PressError") 196), some (Value.str (Str.ofString "PressError") 204), some (Value.builtin "Exception.__new__"), some (Value.bool true)] }
noncomputable def o82 : Obj := { cls := Value.type "tuple", data := Data.seq #[Value.ref 38] }
noncomputable def o84 (P : Params) : Obj := { cls := Value.type "dict", data := Data.dict #[{ hash := PyData.keyHash P (Str.ofString "__module__"), key := Value.str (Str.ofString "__module__") 232, val := Value.str (Str.ofString "pixelpress.errors") 194 }, { hash := PyData.keyHash P (Str.ofString "__qualname__"), key := Value.str (Str.ofString "__qualname__") 234, val := Value.str (Str.ofString "RangeError") 233 }, { hash := PyData.keyHash P (Str.ofString "__firstlineno__"), key := Value.str (Str.ofString "__firstlineno__") 236, val := Value.int 10 235 }, { hash := PyData.keyHash P (Str.ofString "__static_attributes__"), key := Value.str (Str.ofString "__static_attributes__") 237, val := Value.ref 49 }] 4 }
noncomputable def o87 : Obj := { cls := Value.type "code", data := Data.fields #[Value.str (Str.ofString "RangeError") 227, Value.str (Str.ofString "RangeError") 228, Value.str (Str.ofString "/claim/cut.py") 229, Value.int 10 0, Value.int 0 0, Value.int 0 0, Value.int 0 0, Value.int 0 0, Value.ref 45, Value.bool false, Value.int 181 0, Value.ref 46, Value.none, Value.none, Value.none, Value.none, Value.int 230 0, Value.int 10 0, Value.str (Str.ofString "/claim/cut.py") 231] }
noncomputable def o88 : Obj := { cls := Value.type "frame", slots := #[some (Value.ref 47), some (Value.ref 3), some (Value.ref 44), none, some (Value.str (Str.ofString "pixelpress.errors") 194), none, some (Value.ref 0)] }
noncomputable def o90 (P : Params) : Obj := { cls := Value.type "dict", data := Data.dict #[{ hash := PyData.keyHash P (Str.ofString "__module__"), key := Value.str (Str.ofString "__module__") 232, val := Value.str (Str.ofString "pixelpress.errors") 194 }, { hash := PyData.keyHash P (Str.ofString "__firstlineno__"), key := Value.str (Str.ofString "__firstlineno__") 236, val := Value.int 10 235 }, { hash := PyData.keyHash P (Str.ofString "__static_attributes__"), key := Value.str (Str.ofString "__static_attributes__") 237, val := Value.ref 49 }, { hash := PyData.keyHash P (Str.ofString "__doc__"), key := Value.str (Str.ofString "__doc__") 238, val := Value.none }] 2 }
noncomputable def o91 : Obj := { cls := Value.type "type", data := Data.cls { name := Str.ofString "RangeError", bases := [Value.ref 38], mro := [Value.ref 51, Value.ref 38, Value.type "Exception", Value.type "BaseException", Value.type "object"], ns := 50, qualname := Str.ofString "RangeError" }, slots := #[some (Value.ref 42), none, some (Value.str (Str.ofString "RangeError") 225), some (Value.str (Str.ofString "RangeError") 233), some (Value.builtin "Exception.__new__"), some (Value.bool true)] }
noncomputable def o92 : Obj := { cls := Value.type "super", data := Data.fields #[Value.ref 51, Value.ref 51, Value.ref 51] }
noncomputable def o93 : Obj := { cls := Value.type "builtin_function_or_method", data := Data.fields #[Value.builtin "object.__init_subclass__", Value.ref 51] }
noncomputable def tree93 (P : Params) : BT := .node (boot_o_0 P) (.node (boot_o_1 P) (.node (o79 P) (.node (boot_o_7 P) (.node o43 (.node o68 .nil .nil) (.node o87 .nil .nil)) (.node o60 (.node o76 .nil .nil) .nil)) (.node o43 (.node o56 (.node o72 .nil .nil) (.node o91 .nil .nil)) (.node o64 (.node o60 .nil .nil) .nil))) (.node (boot_o_5 P) (.node (boot_o_9 P) (.node o54 (.node o70 .nil .nil) (.node o43 .nil .nil)) (.node o43 (.node o78 .nil .nil) .nil)) (.node o45 (.node o58 (.node (o74 P) .nil .nil) (.node o93 .nil .nil)) (.node o43 (.node o43 .nil .nil) .nil)))) (.node (o49 P) (.node (boot_o_4 P) (.node (boot_o_8 P) (.node o44 (.node o43 .nil .nil) (.node o88 .nil .nil)) (.node (o61 P) (.node o77 .nil .nil) .nil)) (.node o80 (.node o57 (.node o73 .nil .nil) (.node o92 .nil .nil)) (.node o65 (.node (o84 P) .nil .nil) .nil))) (.node (boot_o_6 P) (.node (boot_o_10 P) (.node o43 (.node o71 .nil .nil) (.node (o90 P) .nil .nil)) (.node o63 (.node o82 .nil .nil) .nil)) (.node o46 (.node o59 (.node o81 .nil .nil) .nil) (.node o44 (.node o44 .nil .nil) .nil))))
noncomputable def o94 (P : Params) : Obj := { cls := Value.type "dict", data := Data.dict #[{ hash := PyData.keyHash P (Str.ofString "__name__"), key := Value.str (Str.ofString "__name__") 165, val := Value.str (Str.ofString "pixelpress.upsampling") 309 }, { hash := PyData.keyHash P (Str.ofString "__doc__"), key := Value.str (Str.ofString "__doc__") 166, val := Value.none }, { hash := PyData.keyHash P (Str.ofString "__package__"), key := Value.str (Str.ofString "__package__") 167, val := Value.none }, { hash := PyData.keyHash P (Str.ofString "__loader__"), key := Value.str (Str.ofString "__loader__") 168, val := Value.builtin "__main__.__loader__#opaque" }, { hash := PyData.keyHash P (Str.ofString "__spec__"), key := Value.str (Str.ofString "__spec__") 169, val := Value.none }, { hash := PyData.keyHash P (Str.ofString "__annotations__"), key := Value.str (Str.ofString "__annotations__") 170, val := Value.ref 6 }, { hash := PyData.keyHash P (Str.ofString "__builtins__"), key := Value.str (Str.ofString "__builtins__") 171, val := Value.ref 4 }, { hash := PyData.keyHash P (Str.ofString "__file__"), key := Value.str (Str.ofString "__file__") 173, val := Value.str (Str.ofString "/claim/cut.py") 172 }, { hash := PyData.keyHash P (Str.ofString "__cached__"), key := Value.str (Str.ofString "__cached__") 174, val := Value.none }, { hash := PyData.keyHash P (Str.ofString "_wall"), key := Value.str (Str.ofString "_wall") 193, val := Value.ref 21 }, { hash := PyData.keyHash P (Str.ofString "PressError"), key := Value.str (Str.ofString "PressError") 224, val := Value.ref 38 }, { hash := PyData.keyHash P (Str.ofString "RangeError"), key := Value.str (Str.ofString "RangeError") 240, val := Value.ref 51 }, { hash := PyData.keyHash P (Str.ofString "Plane"), key := Value.str (Str.ofString "Plane") 294, val := Value.ref 84 }, { hash := PyData.keyHash P (Str.ofString "kept_in"), key := Value.str (Str.ofString "kept_in") 302, val := Value.ref 95 }, { hash := PyData.keyHash P (Str.ofString "cut"), key := Value.str (Str.ofString "cut") 308, val := Value.ref 100 }, { hash := PyData.keyHash P (Str.ofString "grown"), key := Value.str (Str.ofString "grown") 322, val := Value.ref 107 }] 16 }
noncomputable def o95 : Obj := { cls := Value.none, data := Data.fields #[Value.int 1 0, Value.int 0 0, Value.ref 20, Value.int 5 0, Value.int 0 0, Value.ref 27, Value.int 10 0, Value.int 0 0, Value.ref 47, Value.int 13 0, Value.int 0 0, Value.ref 59, Value.int 25 0, Value.int 0 0, Value.ref 94, Value.int 29 0, Value.int 0 0, Value.ref 99, Value.int 35 0, Value.int 0 0, Value.ref 106] }
noncomputable def o98 (P : Params) : Obj := { cls := Value.type "dict", data := Data.dict #[{ hash := PyData.keyHash P (Str.ofString "__module__"), key := Value.str (Str.ofString "__module__") 250, val := Value.str (Str.ofString "pixelpress.planes") 241 }, { hash := PyData.keyHash P (Str.ofString "__qualname__"), key := Value.str (Str.ofString "__qualname__") 252, val := Value.str (Str.ofString "Plane") 251 }, { hash := PyData.keyHash P (Str.ofString "__firstlineno__"), key := Value.str (Str.ofString "__firstlineno__") 254, val := Value.int 13 253 }, { hash := PyData.keyHash P (Str.ofString "__init__"), key := Value.str (Str.ofString "__init__") 264, val := Value.ref 67 }, { hash := PyData.keyHash P (Str.ofString "at"), key := Value.str (Str.ofString "at") 273, val := Value.ref 74 }, { hash := PyData.keyHash P (Str.ofString "put"), key := Value.str (Str.ofString "put") 283, val := Value.ref 81 }, { hash := PyData.keyHash P (Str.ofString "__static_attributes__"), key := Value.str (Str.ofString "__static_attributes__") 287, val := Value.ref 82 }] 7 }
noncomputable def o100 : Obj := { cls := Value.none, data := Data.fields #[Value.int 15 0, Value.int 4 0, Value.ref 66, Value.int 20 0, Value.int 4 0, Value.ref 73, Value.int 23 0, Value.int 4 0, Value.ref 80] }
noncomputable def o101 : Obj := { cls := Value.type "code", data := Data.fields #[Value.str (Str.ofString "Plane") 245, Value.str (Str.ofString "Plane") 246, Value.str (Str.ofString "/claim/cut.py") 247, Value.int 13 0, Value.int 0 0, Value.int 0 0, Value.int 0 0, Value.int 0 0, Value.ref 57, Value.bool false, Value.int 181 0, Value.ref 58, Value.none, Value.none, Value.none, Value.none, Value.int 248 0, Value.int 13 0, Value.str (Str.ofString "/claim/cut.py") 249] }
noncomputable def o102 : Obj := { cls := Value.type "frame", slots := #[some (Value.ref 59), some (Value.ref 3), some (Value.ref 56), none, some (Value.str (Str.ofString "pixelpress.planes") 241), none, some (Value.ref 0)] }
noncomputable def o105 : Obj := { cls := Value.type "tuple", data := Data.seq #[Value.str (Str.ofString "self") 258, Value.str (Str.ofString "width") 259, Value.str (Str.ofString "height") 260, Value.str (Str.ofString "rows") 261] }
noncomputable def o107 : Obj := { cls := Value.none, data := Data.func { name := Str.ofString "__init__", qualname := Str.ofString "Plane.__init__", params := dA (fnIn 5 0), body := dB (fnIn 5 0), scope := dS (fnIn 5 0), globals := 0, closure := [], defaults := Value.none, kwdefaults := Value.none } }
noncomputable def o108 : Obj := { cls := Value.type "code", data := Data.fields #[Value.str (Str.ofString "__init__") 255, Value.str (Str.ofString "Plane.__init__") 256, Value.str (Str.ofString "/claim/cut.py") 257, Value.int 15 0, Value.int 4 0, Value.int 0 0, Value.int 0 0, Value.int 3 0, Value.ref 61, Value.bool true, Value.int 181 0, Value.ref 62, Value.none, Value.ref 63, Value.ref 64, Value.ref 65, Value.int 262 0, Value.int 15 0, Value.str (Str.ofString "/claim/cut.py") 263] }
noncomputable def o109 : Obj := { cls := Value.type "function", data := Data.func { name := Str.ofString "__init__", qualname := Str.ofString "Plane.__init__", params := dA (fnIn 5 0), body := dB (fnIn 5 0), scope := dS (fnIn 5 0), globals := 3, closure := [], defaults := Value.none, kwdefaults := Value.none, pyModule := Value.str (Str.ofString "pixelpress.planes") 241, code := Value.ref 66 } }
noncomputable def o112 : Obj := { cls := Value.type "tuple", data := Data.seq #[Value.str (Str.ofString "self") 268, Value.str (Str.ofString "x") 269, Value.str (Str.ofString "y") 270] }
noncomputable def o114 : Obj := { cls := Value.none, data := Data.func { name := Str.ofString "at", qualname := Str.ofString "Plane.at", params := dA (fnIn 5 1), body := dB (fnIn 5 1), scope := dS (fnIn 5 1), globals := 0, closure := [], defaults := Value.none, kwdefaults := Value.none } }
noncomputable def o115 : Obj := { cls := Value.type "code", data := Data.fields #[Value.str (Str.ofString "at") 265, Value.str (Str.ofString "Plane.at") 266, Value.str (Str.ofString "/claim/cut.py") 267, Value.int 20 0, Value.int 3 0, Value.int 0 0, Value.int 0 0, Value.int 3 0, Value.ref 68, Value.bool true, Value.int 181 0, Value.ref 69, Value.none, Value.ref 70, Value.ref 71, Value.ref 72, Value.int 271 0, Value.int 20 0, Value.str (Str.ofString "/claim/cut.py") 272] }
noncomputable def o116 : Obj := { cls := Value.type "function", data := Data.func { name := Str.ofString "at", qualname := Str.ofString "Plane.at", params := dA (fnIn 5 1), body := dB (fnIn 5 1), scope := dS (fnIn 5 1), globals := 3, closure := [], defaults := Value.none, kwdefaults := Value.none, pyModule := Value.str (Str.ofString "pixelpress.planes") 241, code := Value.ref 73 } }
noncomputable def o119 : Obj := { cls := Value.type "tuple", data := Data.seq #[Value.str (Str.ofString "self") 277, Value.str (Str.ofString "x") 278, Value.str (Str.ofString "y") 279, Value.str (Str.ofString "value") 280] }
noncomputable def o121 : Obj := { cls := Value.none, data := Data.func { name := Str.ofString "put", qualname := Str.ofString "Plane.put", params := dA (fnIn 5 2), body := dB (fnIn 5 2), scope := dS (fnIn 5 2), globals := 0, closure := [], defaults := Value.none, kwdefaults := Value.none } }
noncomputable def o122 : Obj := { cls := Value.type "code", data := Data.fields #[Value.str (Str.ofString "put") 274, Value.str (Str.ofString "Plane.put") 275, Value.str (Str.ofString "/claim/cut.py") 276, Value.int 23 0, Value.int 4 0, Value.int 0 0, Value.int 0 0, Value.int 3 0, Value.ref 75, Value.bool true, Value.int 181 0, Value.ref 76, Value.none, Value.ref 77, Value.ref 78, Value.ref 79, Value.int 281 0, Value.int 23 0, Value.str (Str.ofString "/claim/cut.py") 282] }
noncomputable def o123 : Obj := { cls := Value.type "function", data := Data.func { name := Str.ofString "put", qualname := Str.ofString "Plane.put", params := dA (fnIn 5 2), body := dB (fnIn 5 2), scope := dS (fnIn 5 2), globals := 3, closure := [], defaults := Value.none, kwdefaults := Value.none, pyModule := Value.str (Str.ofString "pixelpress.planes") 241, code := Value.ref 80 } }
noncomputable def o124 : Obj := { cls := Value.type "tuple", data := Data.seq #[Value.str (Str.ofString "height") 284, Value.str (Str.ofString "rows") 285, Value.str (Str.ofString "width") 286] }
noncomputable def o125 (P : Params) : Obj := { cls := Value.type "dict", data := Data.dict #[{ hash := PyData.keyHash P (Str.ofString "__module__"), key := Value.str (Str.ofString "__module__") 250, val := Value.str (Str.ofString "pixelpress.planes") 241 }, { hash := PyData.keyHash P (Str.ofString "__firstlineno__"), key := Value.str (Str.ofString "__firstlineno__") 254, val := Value.int 13 253 }, { hash := PyData.keyHash P (Str.ofString "__init__"), key := Value.str (Str.ofString "__init__") 264, val := Value.ref 67 }, { hash := PyData.keyHash P (Str.ofString "at"), key := Value.str (Str.ofString "at") 273, val := Value.ref 74 }, { hash := PyData.keyHash P (Str.ofString "put"), key := Value.str (Str.ofString "put") 283, val := Value.ref 81 }, { hash := PyData.keyHash P (Str.ofString "__static_attributes__"), key := Value.str (Str.ofString "__static_attributes__") 287, val := Value.ref 82 }, { hash := PyData.keyHash P (Str.ofString "__dict__"), key := Value.str (Str.ofString "__dict__") 289, val := Value.ref 85 }, { hash := PyData.keyHash P (Str.ofString "__weakref__"), key := Value.str (Str.ofString "__weakref__") 291, val := Value.ref 86 }, { hash := PyData.keyHash P (Str.ofString "__doc__"), key := Value.str (Str.ofString "__doc__") 292, val := Value.none }] 4 }
noncomputable def o126 : Obj := { cls := Value.type "type", data := Data.cls { name := Str.ofString "Plane", bases := [Value.type "object"], mro := [Value.ref 84, Value.type "object"], ns := 83, qualname := Str.ofString "Plane" }, slots := #[none, none, some (Value.str (Str.ofString "Plane") 243), some (Value.str (Str.ofString "Plane") 251), some (Value.builtin "object.__new__"), some (Value.bool true)] }
noncomputable def o127 : Obj := { cls := Value.type "getset_descriptor", data := Data.fields #[Value.str (Str.ofString "__dict__") 288, Value.ref 84, Value.builtin "function.__dict__", Value.builtin "function.__dict__#set"] }
noncomputable def o128 : Obj := { cls := Value.type "getset_descriptor", data := Data.fields #[Value.str (Str.ofString "__weakref__") 290, Value.ref 84, Value.builtin "ExceptionGroup.__weakref__", Value.none] }
noncomputable def o129 : Obj := { cls := Value.type "super", data := Data.fields #[Value.ref 84, Value.ref 84, Value.ref 84] }
noncomputable def o130 : Obj := { cls := Value.type "builtin_function_or_method", data := Data.fields #[Value.builtin "object.__init_subclass__", Value.ref 84] }
noncomputable def o133 : Obj := { cls := Value.type "tuple", data := Data.seq #[Value.str (Str.ofString "place") 298, Value.str (Str.ofString "size") 299] }
noncomputable def o135 : Obj := { cls := Value.none, data := Data.func { name := Str.ofString "kept_in", qualname := Str.ofString "kept_in", params := dA (fnAt 6), body := dB (fnAt 6), scope := dS (fnAt 6), globals := 0, closure := [], defaults := Value.none, kwdefaults := Value.none } }
noncomputable def o136 : Obj := { cls := Value.type "code", data := Data.fields #[Value.str (Str.ofString "kept_in") 295, Value.str (Str.ofString "kept_in") 296, Value.str (Str.ofString "/claim/cut.py") 297, Value.int 25 0, Value.int 2 0, Value.int 0 0, Value.int 0 0, Value.int 3 0, Value.ref 89, Value.bool true, Value.int 181 0, Value.ref 90, Value.none, Value.ref 91, Value.ref 92, Value.ref 93, Value.int 300 0, Value.int 25 0, Value.str (Str.ofString "/claim/cut.py") 301] }
noncomputable def o137 : Obj := { cls := Value.type "function", data := Data.func { name := Str.ofString "kept_in", qualname := Str.ofString "kept_in", params := dA (fnAt 6), body := dB (fnAt 6), scope := dS (fnAt 6), globals := 3, closure := [], defaults := Value.none, kwdefaults := Value.none, pyModule := Value.str (Str.ofString "pixelpress.planes") 241, code := Value.ref 94 } }
noncomputable def o140 : Obj := { cls := Value.none, data := Data.func { name := Str.ofString "cut", qualname := Str.ofString "cut", params := dA (fnAt 7), body := dB (fnAt 7), scope := dS (fnAt 7), globals := 0, closure := [], defaults := Value.none, kwdefaults := Value.none } }
noncomputable def o141 : Obj := { cls := Value.type "code", data := Data.fields #[Value.str (Str.ofString "cut") 303, Value.str (Str.ofString "cut") 304, Value.str (Str.ofString "/claim/cut.py") 305, Value.int 29 0, Value.int 5 0, Value.int 0 0, Value.int 0 0, Value.int 3 0, Value.ref 96, Value.bool true, Value.int 181 0, Value.ref 97, Value.none, Value.none, Value.none, Value.ref 98, Value.int 306 0, Value.int 29 0, Value.str (Str.ofString "/claim/cut.py") 307] }
noncomputable def o142 : Obj := { cls := Value.type "function", data := Data.func { name := Str.ofString "cut", qualname := Str.ofString "cut", params := dA (fnAt 7), body := dB (fnAt 7), scope := dS (fnAt 7), globals := 3, closure := [], defaults := Value.none, kwdefaults := Value.none, pyModule := Value.str (Str.ofString "pixelpress.planes") 241, code := Value.ref 99 } }
noncomputable def o145 : Obj := { cls := Value.type "tuple", data := Data.seq #[Value.str (Str.ofString "plane") 314, Value.str (Str.ofString "across") 315, Value.str (Str.ofString "down") 316, Value.str (Str.ofString "width") 317, Value.str (Str.ofString "height") 318, Value.str (Str.ofString "fancy") 319] }
noncomputable def o147 : Obj := { cls := Value.none, data := Data.func { name := Str.ofString "grown", qualname := Str.ofString "grown", params := dA (fnAt 9), body := dB (fnAt 9), scope := dS (fnAt 9), globals := 0, closure := [], defaults := Value.none, kwdefaults := Value.none } }
noncomputable def o148 : Obj := { cls := Value.type "code", data := Data.fields #[Value.str (Str.ofString "grown") 311, Value.str (Str.ofString "grown") 312, Value.str (Str.ofString "/claim/cut.py") 313, Value.int 35 0, Value.int 6 0, Value.int 0 0, Value.int 0 0, Value.int 3 0, Value.ref 101, Value.bool true, Value.int 181 0, Value.ref 102, Value.none, Value.ref 103, Value.ref 104, Value.ref 105, Value.int 320 0, Value.int 35 0, Value.str (Str.ofString "/claim/cut.py") 321] }
noncomputable def o149 : Obj := { cls := Value.type "function", data := Data.func { name := Str.ofString "grown", qualname := Str.ofString "grown", params := dA (fnAt 9), body := dB (fnAt 9), scope := dS (fnAt 9), globals := 3, closure := [], defaults := Value.none, kwdefaults := Value.none, pyModule := Value.str (Str.ofString "pixelpress.upsampling") 309, code := Value.ref 106 } }
noncomputable def tree149 (P : Params) : BT := .node (boot_o_0 P) (.node (boot_o_1 P) (.node (o94 P) (.node (boot_o_7 P) (.node o43 (.node o68 (.node o105 .nil .nil) (.node o137 .nil .nil)) (.node o87 (.node o121 .nil .nil) .nil)) (.node o60 (.node o76 (.node o43 .nil .nil) (.node o145 .nil .nil)) (.node o60 (.node o129 .nil .nil) .nil))) (.node o43 (.node o56 (.node o72 (.node o109 .nil .nil) (.node o141 .nil .nil)) (.node o91 (.node (o125 P) .nil .nil) .nil)) (.node o64 (.node o60 (.node o43 .nil .nil) (.node o149 .nil .nil)) (.node o101 (.node o133 .nil .nil) .nil)))) (.node (boot_o_5 P) (.node (boot_o_9 P) (.node o54 (.node o70 (.node o107 .nil .nil) (.node o44 .nil .nil)) (.node o43 (.node o123 .nil .nil) .nil)) (.node o43 (.node o78 (.node o115 .nil .nil) (.node o147 .nil .nil)) (.node o43 (.node o43 .nil .nil) .nil))) (.node o45 (.node o58 (.node (o74 P) (.node o44 .nil .nil) (.node o43 .nil .nil)) (.node o93 (.node o127 .nil .nil) .nil)) (.node o43 (.node o43 (.node o119 .nil .nil) .nil) (.node o43 (.node o135 .nil .nil) .nil))))) (.node (o49 P) (.node (boot_o_4 P) (.node (boot_o_8 P) (.node o44 (.node o43 (.node o43 .nil .nil) (.node o43 .nil .nil)) (.node o88 (.node o122 .nil .nil) .nil)) (.node (o61 P) (.node o77 (.node o114 .nil .nil) (.node o43 .nil .nil)) (.node (o98 P) (.node o130 .nil .nil) .nil))) (.node o95 (.node o57 (.node o73 (.node o43 .nil .nil) (.node o142 .nil .nil)) (.node o92 (.node o126 .nil .nil) .nil)) (.node o65 (.node (o84 P) (.node o44 .nil .nil) .nil) (.node o102 (.node o43 .nil .nil) .nil)))) (.node (boot_o_6 P) (.node (boot_o_10 P) (.node o43 (.node o71 (.node o108 .nil .nil) (.node o140 .nil .nil)) (.node (o90 P) (.node o124 .nil .nil) .nil)) (.node o63 (.node o82 (.node o116 .nil .nil) (.node o148 .nil .nil)) (.node o100 (.node o44 .nil .nil) .nil))) (.node o46 (.node o59 (.node o81 (.node o112 .nil .nil) (.node o44 .nil .nil)) (.node o43 (.node o128 .nil .nil) .nil)) (.node o44 (.node o44 (.node o43 .nil .nil) .nil) (.node o44 (.node o136 .nil .nil) .nil)))))
noncomputable def o150 (P : Params) : Obj := { cls := Value.type "dict", data := Data.dict #[{ hash := PyData.keyHash P (Str.ofString "__name__"), key := Value.str (Str.ofString "__name__") 165, val := Value.str (Str.ofString "law_nz0244_01") 381 }, { hash := PyData.keyHash P (Str.ofString "__doc__"), key := Value.str (Str.ofString "__doc__") 166, val := Value.none }, { hash := PyData.keyHash P (Str.ofString "__package__"), key := Value.str (Str.ofString "__package__") 167, val := Value.none }, { hash := PyData.keyHash P (Str.ofString "__loader__"), key := Value.str (Str.ofString "__loader__") 168, val := Value.builtin "__main__.__loader__#opaque" }, { hash := PyData.keyHash P (Str.ofString "__spec__"), key := Value.str (Str.ofString "__spec__") 169, val := Value.none }, { hash := PyData.keyHash P (Str.ofString "__annotations__"), key := Value.str (Str.ofString "__annotations__") 170, val := Value.ref 6 }, { hash := PyData.keyHash P (Str.ofString "__builtins__"), key := Value.str (Str.ofString "__builtins__") 171, val := Value.ref 4 }, { hash := PyData.keyHash P (Str.ofString "__file__"), key := Value.str (Str.ofString "__file__") 173, val := Value.str (Str.ofString "/claim/cut.py") 172 }, { hash := PyData.keyHash P (Str.ofString "__cached__"), key := Value.str (Str.ofString "__cached__") 174, val := Value.none }, { hash := PyData.keyHash P (Str.ofString "_wall"), key := Value.str (Str.ofString "_wall") 193, val := Value.ref 21 }, { hash := PyData.keyHash P (Str.ofString "PressError"), key := Value.str (Str.ofString "PressError") 224, val := Value.ref 38 }, { hash := PyData.keyHash P (Str.ofString "RangeError"), key := Value.str (Str.ofString "RangeError") 240, val := Value.ref 51 }, { hash := PyData.keyHash P (Str.ofString "Plane"), key := Value.str (Str.ofString "Plane") 294, val := Value.ref 84 }, { hash := PyData.keyHash P (Str.ofString "kept_in"), key := Value.str (Str.ofString "kept_in") 302, val := Value.ref 95 }, { hash := PyData.keyHash P (Str.ofString "cut"), key := Value.str (Str.ofString "cut") 308, val := Value.ref 100 }, { hash := PyData.keyHash P (Str.ofString "grown"), key := Value.str (Str.ofString "grown") 322, val := Value.ref 107 }, { hash := PyData.keyHash P (Str.ofString "repeated"), key := Value.str (Str.ofString "repeated") 328, val := Value.ref 112 }, { hash := PyData.keyHash P (Str.ofString "grown_to"), key := Value.str (Str.ofString "grown_to") 342, val := Value.ref 119 }, { hash := PyData.keyHash P (Str.ofString "softened"), key := Value.str (Str.ofString "softened") 348, val := Value.ref 124 }, { hash := PyData.keyHash P (Str.ofString "near_and_far"), key := Value.str (Str.ofString "near_and_far") 358, val := Value.ref 131 }, { hash := PyData.keyHash P (Str.ofString "doubled_row"), key := Value.str (Str.ofString "doubled_row") 373, val := Value.ref 138 }, { hash := PyData.keyHash P (Str.ofString "doubled"), key := Value.str (Str.ofString "doubled") 380, val := Value.ref 145 }, { hash := PyData.keyHash P (Str.ofString "_law_pool"), key := Value.str (Str.ofString "_law_pool") 393, val := Value.ref 152 }, { hash := PyData.keyHash P (Str.ofString "_law_take"), key := Value.str (Str.ofString "_law_take") 402, val := Value.ref 159 }, { hash := PyData.keyHash P (Str.ofString "_law_one"), key := Value.str (Str.ofString "_law_one") 410, val := Value.ref 166 }, { hash := PyData.keyHash P (Str.ofString "_law_at"), key := Value.str (Str.ofString "_law_at") 420, val := Value.ref 173 }, { hash := PyData.keyHash P (Str.ofString "_law_far"), key := Value.str (Str.ofString "_law_far") 427, val := Value.ref 180 }, { hash := PyData.keyHash P (Str.ofString "_law_soft"), key := Value.str (Str.ofString "_law_soft") 439, val := Value.ref 187 }] 28 }
noncomputable def o151 : Obj := { cls := Value.none, data := Data.fields #[Value.int 1 0, Value.int 0 0, Value.ref 20, Value.int 5 0, Value.int 0 0, Value.ref 27, Value.int 10 0, Value.int 0 0, Value.ref 47, Value.int 13 0, Value.int 0 0, Value.ref 59, Value.int 25 0, Value.int 0 0, Value.ref 94, Value.int 29 0, Value.int 0 0, Value.ref 99, Value.int 35 0, Value.int 0 0, Value.ref 106, Value.int 41 0, Value.int 0 0, Value.ref 111, Value.int 48 0, Value.int 0 0, Value.ref 118, Value.int 52 0, Value.int 0 0, Value.ref 123, Value.int 65 0, Value.int 0 0, Value.ref 130, Value.int 71 0, Value.int 0 0, Value.ref 137, Value.int 80 0, Value.int 0 0, Value.ref 144, Value.int 83 0, Value.int 0 0, Value.ref 151, Value.int 90 0, Value.int 0 0, Value.ref 158, Value.int 97 0, Value.int 0 0, Value.ref 165, Value.int 99 0, Value.int 0 0, Value.ref 172, Value.int 102 0, Value.int 0 0, Value.ref 179, Value.int 104 0, Value.int 0 0, Value.ref 186] }
noncomputable def o154 : Obj := { cls := Value.none, data := Data.func { name := Str.ofString "repeated", qualname := Str.ofString "repeated", params := dA (fnAt 10), body := dB (fnAt 10), scope := dS (fnAt 10), globals := 0, closure := [], defaults := Value.none, kwdefaults := Value.none } }
noncomputable def o155 : Obj := { cls := Value.type "code", data := Data.fields #[Value.str (Str.ofString "repeated") 323, Value.str (Str.ofString "repeated") 324, Value.str (Str.ofString "/claim/cut.py") 325, Value.int 41 0, Value.int 7 0, Value.int 0 0, Value.int 0 0, Value.int 3 0, Value.ref 108, Value.bool true, Value.int 181 0, Value.ref 109, Value.none, Value.none, Value.none, Value.ref 110, Value.int 326 0, Value.int 41 0, Value.str (Str.ofString "/claim/cut.py") 327] }
noncomputable def o156 : Obj := { cls := Value.type "function", data := Data.func { name := Str.ofString "repeated", qualname := Str.ofString "repeated", params := dA (fnAt 10), body := dB (fnAt 10), scope := dS (fnAt 10), globals := 3, closure := [], defaults := Value.none, kwdefaults := Value.none, pyModule := Value.str (Str.ofString "pixelpress.upsampling") 309, code := Value.ref 111 } }
noncomputable def o159 : Obj := { cls := Value.type "tuple", data := Data.seq #[Value.str (Str.ofString "plane") 332, Value.str (Str.ofString "own_across") 333, Value.str (Str.ofString "most_across") 334, Value.str (Str.ofString "own_down") 335, Value.str (Str.ofString "most_down") 336, Value.str (Str.ofString "width") 337, Value.str (Str.ofString "height") 338, Value.str (Str.ofString "fancy") 339] }
noncomputable def o161 : Obj := { cls := Value.none, data := Data.func { name := Str.ofString "grown_to", qualname := Str.ofString "grown_to", params := dA (fnAt 11), body := dB (fnAt 11), scope := dS (fnAt 11), globals := 0, closure := [], defaults := Value.none, kwdefaults := Value.none } }
noncomputable def o162 : Obj := { cls := Value.type "code", data := Data.fields #[Value.str (Str.ofString "grown_to") 329, Value.str (Str.ofString "grown_to") 330, Value.str (Str.ofString "/claim/cut.py") 331, Value.int 48 0, Value.int 8 0, Value.int 0 0, Value.int 0 0, Value.int 3 0, Value.ref 113, Value.bool true, Value.int 181 0, Value.ref 114, Value.none, Value.ref 115, Value.ref 116, Value.ref 117, Value.int 340 0, Value.int 48 0, Value.str (Str.ofString "/claim/cut.py") 341] }
noncomputable def o163 : Obj := { cls := Value.type "function", data := Data.func { name := Str.ofString "grown_to", qualname := Str.ofString "grown_to", params := dA (fnAt 11), body := dB (fnAt 11), scope := dS (fnAt 11), globals := 3, closure := [], defaults := Value.none, kwdefaults := Value.none, pyModule := Value.str (Str.ofString "pixelpress.upsampling") 309, code := Value.ref 118 } }
noncomputable def o166 : Obj := { cls := Value.none, data := Data.func { name := Str.ofString "softened", qualname := Str.ofString "softened", params := dA (fnAt 12), body := dB (fnAt 12), scope := dS (fnAt 12), globals := 0, closure := [], defaults := Value.none, kwdefaults := Value.none } }
noncomputable def o167 : Obj := { cls := Value.type "code", data := Data.fields #[Value.str (Str.ofString "softened") 343, Value.str (Str.ofString "softened") 344, Value.str (Str.ofString "/claim/cut.py") 345, Value.int 52 0, Value.int 3 0, Value.int 0 0, Value.int 0 0, Value.int 3 0, Value.ref 120, Value.bool true, Value.int 181 0, Value.ref 121, Value.none, Value.none, Value.none, Value.ref 122, Value.int 346 0, Value.int 52 0, Value.str (Str.ofString "/claim/cut.py") 347] }
noncomputable def o168 : Obj := { cls := Value.type "function", data := Data.func { name := Str.ofString "softened", qualname := Str.ofString "softened", params := dA (fnAt 12), body := dB (fnAt 12), scope := dS (fnAt 12), globals := 3, closure := [], defaults := Value.none, kwdefaults := Value.none, pyModule := Value.str (Str.ofString "pixelpress.upsampling") 309, code := Value.ref 123 } }
noncomputable def o171 : Obj := { cls := Value.type "tuple", data := Data.seq #[Value.str (Str.ofString "place") 352, Value.str (Str.ofString "size") 353, Value.str (Str.ofString "near") 354, Value.str (Str.ofString "far") 355] }
noncomputable def o173 : Obj := { cls := Value.none, data := Data.func { name := Str.ofString "near_and_far", qualname := Str.ofString "near_and_far", params := dA (fnAt 13), body := dB (fnAt 13), scope := dS (fnAt 13), globals := 0, closure := [], defaults := Value.none, kwdefaults := Value.none } }
noncomputable def o174 : Obj := { cls := Value.type "code", data := Data.fields #[Value.str (Str.ofString "near_and_far") 349, Value.str (Str.ofString "near_and_far") 350, Value.str (Str.ofString "/claim/cut.py") 351, Value.int 65 0, Value.int 2 0, Value.int 0 0, Value.int 0 0, Value.int 3 0, Value.ref 125, Value.bool true, Value.int 181 0, Value.ref 126, Value.none, Value.ref 127, Value.ref 128, Value.ref 129, Value.int 356 0, Value.int 65 0, Value.str (Str.ofString "/claim/cut.py") 357] }
noncomputable def o175 : Obj := { cls := Value.type "function", data := Data.func { name := Str.ofString "near_and_far", qualname := Str.ofString "near_and_far", params := dA (fnAt 13), body := dB (fnAt 13), scope := dS (fnAt 13), globals := 3, closure := [], defaults := Value.none, kwdefaults := Value.none, pyModule := Value.str (Str.ofString "pixelpress.upsampling") 309, code := Value.ref 130 } }
noncomputable def o178 : Obj := { cls := Value.type "tuple", data := Data.seq #[Value.str (Str.ofString "values") 362, Value.str (Str.ofString "scale") 363, Value.str (Str.ofString "left") 364, Value.str (Str.ofString "right") 365, Value.str (Str.ofString "whole") 366, Value.str (Str.ofString "found") 367, Value.str (Str.ofString "at") 368, Value.str (Str.ofString "ahead") 369, Value.str (Str.ofString "behind") 370] }
noncomputable def o180 : Obj := { cls := Value.none, data := Data.func { name := Str.ofString "doubled_row", qualname := Str.ofString "doubled_row", params := dA (fnAt 14), body := dB (fnAt 14), scope := dS (fnAt 14), globals := 0, closure := [], defaults := Value.none, kwdefaults := Value.none } }
noncomputable def o181 : Obj := { cls := Value.type "code", data := Data.fields #[Value.str (Str.ofString "doubled_row") 359, Value.str (Str.ofString "doubled_row") 360, Value.str (Str.ofString "/claim/cut.py") 361, Value.int 71 0, Value.int 4 0, Value.int 0 0, Value.int 0 0, Value.int 3 0, Value.ref 132, Value.bool true, Value.int 181 0, Value.ref 133, Value.none, Value.ref 134, Value.ref 135, Value.ref 136, Value.int 371 0, Value.int 71 0, Value.str (Str.ofString "/claim/cut.py") 372] }
noncomputable def o182 : Obj := { cls := Value.type "function", data := Data.func { name := Str.ofString "doubled_row", qualname := Str.ofString "doubled_row", params := dA (fnAt 14), body := dB (fnAt 14), scope := dS (fnAt 14), globals := 3, closure := [], defaults := Value.none, kwdefaults := Value.none, pyModule := Value.str (Str.ofString "pixelpress.upsampling") 309, code := Value.ref 137 } }
noncomputable def o185 : Obj := { cls := Value.type "tuple", data := Data.seq #[Value.str (Str.ofString "values") 377] }
noncomputable def o187 : Obj := { cls := Value.none, data := Data.func { name := Str.ofString "doubled", qualname := Str.ofString "doubled", params := dA (fnAt 15), body := dB (fnAt 15), scope := dS (fnAt 15), globals := 0, closure := [], defaults := Value.none, kwdefaults := Value.none } }
noncomputable def o188 : Obj := { cls := Value.type "code", data := Data.fields #[Value.str (Str.ofString "doubled") 374, Value.str (Str.ofString "doubled") 375, Value.str (Str.ofString "/claim/cut.py") 376, Value.int 80 0, Value.int 1 0, Value.int 0 0, Value.int 0 0, Value.int 3 0, Value.ref 139, Value.bool true, Value.int 181 0, Value.ref 140, Value.none, Value.ref 141, Value.ref 142, Value.ref 143, Value.int 378 0, Value.int 80 0, Value.str (Str.ofString "/claim/cut.py") 379] }
noncomputable def o189 : Obj := { cls := Value.type "function", data := Data.func { name := Str.ofString "doubled", qualname := Str.ofString "doubled", params := dA (fnAt 15), body := dB (fnAt 15), scope := dS (fnAt 15), globals := 3, closure := [], defaults := Value.none, kwdefaults := Value.none, pyModule := Value.str (Str.ofString "pixelpress.upsampling") 309, code := Value.ref 144 } }
noncomputable def o192 : Obj := { cls := Value.type "tuple", data := Data.seq #[Value.str (Str.ofString "script") 386, Value.str (Str.ofString "k") 387, Value.str (Str.ofString "cell") 388, Value.str (Str.ofString "big") 389, Value.str (Str.ofString "mixed") 390] }
noncomputable def o194 : Obj := { cls := Value.none, data := Data.func { name := Str.ofString "_law_pool", qualname := Str.ofString "_law_pool", params := dA (fnAt 17), body := dB (fnAt 17), scope := dS (fnAt 17), globals := 0, closure := [], defaults := Value.none, kwdefaults := Value.none } }
noncomputable def o195 : Obj := { cls := Value.type "code", data := Data.fields #[Value.str (Str.ofString "_law_pool") 383, Value.str (Str.ofString "_law_pool") 384, Value.str (Str.ofString "/claim/cut.py") 385, Value.int 83 0, Value.int 2 0, Value.int 0 0, Value.int 0 0, Value.int 3 0, Value.ref 146, Value.bool true, Value.int 181 0, Value.ref 147, Value.none, Value.ref 148, Value.ref 149, Value.ref 150, Value.int 391 0, Value.int 83 0, Value.str (Str.ofString "/claim/cut.py") 392] }
noncomputable def o196 : Obj := { cls := Value.type "function", data := Data.func { name := Str.ofString "_law_pool", qualname := Str.ofString "_law_pool", params := dA (fnAt 17), body := dB (fnAt 17), scope := dS (fnAt 17), globals := 3, closure := [], defaults := Value.none, kwdefaults := Value.none, pyModule := Value.str (Str.ofString "law_nz0244_01") 381, code := Value.ref 151 } }
noncomputable def o199 : Obj := { cls := Value.type "tuple", data := Data.seq #[Value.str (Str.ofString "source") 397, Value.str (Str.ofString "top") 398, Value.str (Str.ofString "digit") 399] }
noncomputable def o201 : Obj := { cls := Value.none, data := Data.func { name := Str.ofString "_law_take", qualname := Str.ofString "_law_take", params := dA (fnAt 18), body := dB (fnAt 18), scope := dS (fnAt 18), globals := 0, closure := [], defaults := Value.none, kwdefaults := Value.none } }
noncomputable def o202 : Obj := { cls := Value.type "code", data := Data.fields #[Value.str (Str.ofString "_law_take") 394, Value.str (Str.ofString "_law_take") 395, Value.str (Str.ofString "/claim/cut.py") 396, Value.int 90 0, Value.int 2 0, Value.int 0 0, Value.int 0 0, Value.int 3 0, Value.ref 153, Value.bool true, Value.int 181 0, Value.ref 154, Value.none, Value.ref 155, Value.ref 156, Value.ref 157, Value.int 400 0, Value.int 90 0, Value.str (Str.ofString "/claim/cut.py") 401] }
noncomputable def o203 : Obj := { cls := Value.type "function", data := Data.func { name := Str.ofString "_law_take", qualname := Str.ofString "_law_take", params := dA (fnAt 18), body := dB (fnAt 18), scope := dS (fnAt 18), globals := 3, closure := [], defaults := Value.none, kwdefaults := Value.none, pyModule := Value.str (Str.ofString "law_nz0244_01") 381, code := Value.ref 158 } }
noncomputable def o206 : Obj := { cls := Value.type "tuple", data := Data.seq #[Value.str (Str.ofString "source") 406, Value.str (Str.ofString "things") 407] }
noncomputable def o208 : Obj := { cls := Value.none, data := Data.func { name := Str.ofString "_law_one", qualname := Str.ofString "_law_one", params := dA (fnAt 19), body := dB (fnAt 19), scope := dS (fnAt 19), globals := 0, closure := [], defaults := Value.none, kwdefaults := Value.none } }
noncomputable def o209 : Obj := { cls := Value.type "code", data := Data.fields #[Value.str (Str.ofString "_law_one") 403, Value.str (Str.ofString "_law_one") 404, Value.str (Str.ofString "/claim/cut.py") 405, Value.int 97 0, Value.int 2 0, Value.int 0 0, Value.int 0 0, Value.int 3 0, Value.ref 160, Value.bool true, Value.int 181 0, Value.ref 161, Value.none, Value.ref 162, Value.ref 163, Value.ref 164, Value.int 408 0, Value.int 97 0, Value.str (Str.ofString "/claim/cut.py") 409] }
noncomputable def o210 : Obj := { cls := Value.type "function", data := Data.func { name := Str.ofString "_law_one", qualname := Str.ofString "_law_one", params := dA (fnAt 19), body := dB (fnAt 19), scope := dS (fnAt 19), globals := 3, closure := [], defaults := Value.none, kwdefaults := Value.none, pyModule := Value.str (Str.ofString "law_nz0244_01") 381, code := Value.ref 165 } }
noncomputable def o213 : Obj := { cls := Value.type "tuple", data := Data.seq #[Value.str (Str.ofString "rows") 414, Value.str (Str.ofString "x") 415, Value.str (Str.ofString "y") 416, Value.str (Str.ofString "line") 417] }
noncomputable def o215 : Obj := { cls := Value.none, data := Data.func { name := Str.ofString "_law_at", qualname := Str.ofString "_law_at", params := dA (fnAt 20), body := dB (fnAt 20), scope := dS (fnAt 20), globals := 0, closure := [], defaults := Value.none, kwdefaults := Value.none } }
noncomputable def o216 : Obj := { cls := Value.type "code", data := Data.fields #[Value.str (Str.ofString "_law_at") 411, Value.str (Str.ofString "_law_at") 412, Value.str (Str.ofString "/claim/cut.py") 413, Value.int 99 0, Value.int 3 0, Value.int 0 0, Value.int 0 0, Value.int 3 0, Value.ref 167, Value.bool true, Value.int 181 0, Value.ref 168, Value.none, Value.ref 169, Value.ref 170, Value.ref 171, Value.int 418 0, Value.int 99 0, Value.str (Str.ofString "/claim/cut.py") 419] }
noncomputable def o217 : Obj := { cls := Value.type "function", data := Data.func { name := Str.ofString "_law_at", qualname := Str.ofString "_law_at", params := dA (fnAt 20), body := dB (fnAt 20), scope := dS (fnAt 20), globals := 3, closure := [], defaults := Value.none, kwdefaults := Value.none, pyModule := Value.str (Str.ofString "law_nz0244_01") 381, code := Value.ref 172 } }
noncomputable def o220 : Obj := { cls := Value.type "tuple", data := Data.seq #[Value.str (Str.ofString "place") 424] }
noncomputable def o222 : Obj := { cls := Value.none, data := Data.func { name := Str.ofString "_law_far", qualname := Str.ofString "_law_far", params := dA (fnAt 21), body := dB (fnAt 21), scope := dS (fnAt 21), globals := 0, closure := [], defaults := Value.none, kwdefaults := Value.none } }
noncomputable def o223 : Obj := { cls := Value.type "code", data := Data.fields #[Value.str (Str.ofString "_law_far") 421, Value.str (Str.ofString "_law_far") 422, Value.str (Str.ofString "/claim/cut.py") 423, Value.int 102 0, Value.int 1 0, Value.int 0 0, Value.int 0 0, Value.int 3 0, Value.ref 174, Value.bool true, Value.int 181 0, Value.ref 175, Value.none, Value.ref 176, Value.ref 177, Value.ref 178, Value.int 425 0, Value.int 102 0, Value.str (Str.ofString "/claim/cut.py") 426] }
noncomputable def o224 : Obj := { cls := Value.type "function", data := Data.func { name := Str.ofString "_law_far", qualname := Str.ofString "_law_far", params := dA (fnAt 21), body := dB (fnAt 21), scope := dS (fnAt 21), globals := 3, closure := [], defaults := Value.none, kwdefaults := Value.none, pyModule := Value.str (Str.ofString "law_nz0244_01") 381, code := Value.ref 179 } }
noncomputable def o227 : Obj := { cls := Value.type "tuple", data := Data.seq #[Value.str (Str.ofString "rows") 431, Value.str (Str.ofString "x") 432, Value.str (Str.ofString "y") 433, Value.str (Str.ofString "across") 434, Value.str (Str.ofString "down") 435, Value.str (Str.ofString "total") 436] }
noncomputable def o229 : Obj := { cls := Value.none, data := Data.func { name := Str.ofString "_law_soft", qualname := Str.ofString "_law_soft", params := dA (fnAt 22), body := dB (fnAt 22), scope := dS (fnAt 22), globals := 0, closure := [], defaults := Value.none, kwdefaults := Value.none } }
noncomputable def o230 : Obj := { cls := Value.type "code", data := Data.fields #[Value.str (Str.ofString "_law_soft") 428, Value.str (Str.ofString "_law_soft") 429, Value.str (Str.ofString "/claim/cut.py") 430, Value.int 104 0, Value.int 5 0, Value.int 0 0, Value.int 0 0, Value.int 3 0, Value.ref 181, Value.bool true, Value.int 181 0, Value.ref 182, Value.none, Value.ref 183, Value.ref 184, Value.ref 185, Value.int 437 0, Value.int 104 0, Value.str (Str.ofString "/claim/cut.py") 438] }
noncomputable def o231 : Obj := { cls := Value.type "function", data := Data.func { name := Str.ofString "_law_soft", qualname := Str.ofString "_law_soft", params := dA (fnAt 22), body := dB (fnAt 22), scope := dS (fnAt 22), globals := 3, closure := [], defaults := Value.none, kwdefaults := Value.none, pyModule := Value.str (Str.ofString "law_nz0244_01") 381, code := Value.ref 186 } }
noncomputable def tree231 (P : Params) : BT := .node (boot_o_0 P) (.node (boot_o_1 P) (.node (o150 P) (.node (boot_o_7 P) (.node o43 (.node o68 (.node o105 (.node o171 .nil .nil) .nil) (.node o137 (.node o203 .nil .nil) .nil)) (.node o87 (.node o121 (.node o187 .nil .nil) .nil) (.node o155 (.node o44 .nil .nil) .nil))) (.node o60 (.node o76 (.node o43 (.node o43 .nil .nil) .nil) (.node o145 (.node o43 .nil .nil) .nil)) (.node o60 (.node o129 (.node o195 .nil .nil) .nil) (.node o163 (.node o227 .nil .nil) .nil)))) (.node o43 (.node o56 (.node o72 (.node o109 (.node o175 .nil .nil) .nil) (.node o141 (.node o43 .nil .nil) .nil)) (.node o91 (.node (o125 P) (.node o44 .nil .nil) .nil) (.node o159 (.node o223 .nil .nil) .nil))) (.node o64 (.node o60 (.node o43 (.node o43 .nil .nil) .nil) (.node o149 (.node o215 .nil .nil) .nil)) (.node o101 (.node o133 (.node o199 .nil .nil) .nil) (.node o167 (.node o231 .nil .nil) .nil))))) (.node (boot_o_5 P) (.node (boot_o_9 P) (.node o54 (.node o70 (.node o107 (.node o173 .nil .nil) .nil) (.node o44 (.node o44 .nil .nil) .nil)) (.node o43 (.node o123 (.node o189 .nil .nil) .nil) (.node o43 (.node o43 .nil .nil) .nil))) (.node o43 (.node o78 (.node o115 (.node o181 .nil .nil) .nil) (.node o147 (.node o213 .nil .nil) .nil)) (.node o43 (.node o43 (.node o43 .nil .nil) .nil) (.node o44 (.node o229 .nil .nil) .nil)))) (.node o45 (.node o58 (.node (o74 P) (.node o44 (.node o44 .nil .nil) .nil) (.node o43 (.node o209 .nil .nil) .nil)) (.node o93 (.node o127 (.node o43 .nil .nil) .nil) (.node o161 (.node o43 .nil .nil) .nil))) (.node o43 (.node o43 (.node o119 (.node o185 .nil .nil) .nil) (.node o44 (.node o217 .nil .nil) .nil)) (.node o43 (.node o135 (.node o201 .nil .nil) .nil) (.node o43 .nil .nil)))))) (.node (o49 P) (.node (boot_o_4 P) (.node (boot_o_8 P) (.node o44 (.node o43 (.node o43 (.node o43 .nil .nil) .nil) (.node o43 (.node o43 .nil .nil) .nil)) (.node o88 (.node o122 (.node o188 .nil .nil) .nil) (.node o156 (.node o220 .nil .nil) .nil))) (.node (o61 P) (.node o77 (.node o114 (.node o180 .nil .nil) .nil) (.node o43 (.node o44 .nil .nil) .nil)) (.node (o98 P) (.node o130 (.node o196 .nil .nil) .nil) (.node o43 (.node o43 .nil .nil) .nil)))) (.node o151 (.node o57 (.node o73 (.node o43 (.node o43 .nil .nil) .nil) (.node o142 (.node o208 .nil .nil) .nil)) (.node o92 (.node o126 (.node o192 .nil .nil) .nil) (.node o43 (.node o224 .nil .nil) .nil))) (.node o65 (.node (o84 P) (.node o44 (.node o44 .nil .nil) .nil) (.node o43 (.node o216 .nil .nil) .nil)) (.node o102 (.node o43 (.node o43 .nil .nil) .nil) (.node o168 .nil .nil))))) (.node (boot_o_6 P) (.node (boot_o_10 P) (.node o43 (.node o71 (.node o108 (.node o174 .nil .nil) .nil) (.node o140 (.node o206 .nil .nil) .nil)) (.node (o90 P) (.node o124 (.node o43 .nil .nil) .nil) (.node o44 (.node o222 .nil .nil) .nil))) (.node o63 (.node o82 (.node o116 (.node o182 .nil .nil) .nil) (.node o148 (.node o43 .nil .nil) .nil)) (.node o100 (.node o44 (.node o44 .nil .nil) .nil) (.node o166 (.node o230 .nil .nil) .nil)))) (.node o46 (.node o59 (.node o81 (.node o112 (.node o178 .nil .nil) .nil) (.node o44 (.node o210 .nil .nil) .nil)) (.node o43 (.node o128 (.node o194 .nil .nil) .nil) (.node o162 (.node o44 .nil .nil) .nil))) (.node o44 (.node o44 (.node o43 (.node o43 .nil .nil) .nil) (.node o154 (.node o43 .nil .nil) .nil)) (.node o44 (.node o136 (.node o202 .nil .nil) .nil) (.node o44 .nil .nil))))))
noncomputable def o232 (P : Params) : Obj := { cls := Value.type "dict", data := Data.dict #[{ hash := PyData.keyHash P (Str.ofString "__name__"), key := Value.str (Str.ofString "__name__") 165, val := Value.str (Str.ofString "law_nz0244_01") 381 }, { hash := PyData.keyHash P (Str.ofString "__doc__"), key := Value.str (Str.ofString "__doc__") 166, val := Value.none }, { hash := PyData.keyHash P (Str.ofString "__package__"), key := Value.str (Str.ofString "__package__") 167, val := Value.none }, { hash := PyData.keyHash P (Str.ofString "__loader__"), key := Value.str (Str.ofString "__loader__") 168, val := Value.builtin "__main__.__loader__#opaque" }, { hash := PyData.keyHash P (Str.ofString "__spec__"), key := Value.str (Str.ofString "__spec__") 169, val := Value.none }, { hash := PyData.keyHash P (Str.ofString "__annotations__"), key := Value.str (Str.ofString "__annotations__") 170, val := Value.ref 6 }, { hash := PyData.keyHash P (Str.ofString "__builtins__"), key := Value.str (Str.ofString "__builtins__") 171, val := Value.ref 4 }, { hash := PyData.keyHash P (Str.ofString "__file__"), key := Value.str (Str.ofString "__file__") 173, val := Value.str (Str.ofString "/claim/cut.py") 172 }, { hash := PyData.keyHash P (Str.ofString "__cached__"), key := Value.str (Str.ofString "__cached__") 174, val := Value.none }, { hash := PyData.keyHash P (Str.ofString "_wall"), key := Value.str (Str.ofString "_wall") 193, val := Value.ref 21 }, { hash := PyData.keyHash P (Str.ofString "PressError"), key := Value.str (Str.ofString "PressError") 224, val := Value.ref 38 }, { hash := PyData.keyHash P (Str.ofString "RangeError"), key := Value.str (Str.ofString "RangeError") 240, val := Value.ref 51 }, { hash := PyData.keyHash P (Str.ofString "Plane"), key := Value.str (Str.ofString "Plane") 294, val := Value.ref 84 }, { hash := PyData.keyHash P (Str.ofString "kept_in"), key := Value.str (Str.ofString "kept_in") 302, val := Value.ref 95 }, { hash := PyData.keyHash P (Str.ofString "cut"), key := Value.str (Str.ofString "cut") 308, val := Value.ref 100 }, { hash := PyData.keyHash P (Str.ofString "grown"), key := Value.str (Str.ofString "grown") 322, val := Value.ref 107 }, { hash := PyData.keyHash P (Str.ofString "repeated"), key := Value.str (Str.ofString "repeated") 328, val := Value.ref 112 }, { hash := PyData.keyHash P (Str.ofString "grown_to"), key := Value.str (Str.ofString "grown_to") 342, val := Value.ref 119 }, { hash := PyData.keyHash P (Str.ofString "softened"), key := Value.str (Str.ofString "softened") 348, val := Value.ref 124 }, { hash := PyData.keyHash P (Str.ofString "near_and_far"), key := Value.str (Str.ofString "near_and_far") 358, val := Value.ref 131 }, { hash := PyData.keyHash P (Str.ofString "doubled_row"), key := Value.str (Str.ofString "doubled_row") 373, val := Value.ref 138 }, { hash := PyData.keyHash P (Str.ofString "doubled"), key := Value.str (Str.ofString "doubled") 380, val := Value.ref 145 }, { hash := PyData.keyHash P (Str.ofString "_law_pool"), key := Value.str (Str.ofString "_law_pool") 393, val := Value.ref 152 }, { hash := PyData.keyHash P (Str.ofString "_law_take"), key := Value.str (Str.ofString "_law_take") 402, val := Value.ref 159 }, { hash := PyData.keyHash P (Str.ofString "_law_one"), key := Value.str (Str.ofString "_law_one") 410, val := Value.ref 166 }, { hash := PyData.keyHash P (Str.ofString "_law_at"), key := Value.str (Str.ofString "_law_at") 420, val := Value.ref 173 }, { hash := PyData.keyHash P (Str.ofString "_law_far"), key := Value.str (Str.ofString "_law_far") 427, val := Value.ref 180 }, { hash := PyData.keyHash P (Str.ofString "_law_soft"), key := Value.str (Str.ofString "_law_soft") 439, val := Value.ref 187 }, { hash := PyData.keyHash P (Str.ofString "_law_due"), key := Value.str (Str.ofString "_law_due") 445, val := Value.ref 192 }, { hash := PyData.keyHash P (Str.ofString "_law_refused"), key := Value.str (Str.ofString "_law_refused") 453, val := Value.ref 199 }, { hash := PyData.keyHash P (Str.ofString "law"), key := Value.str (Str.ofString "law") 459, val := Value.ref 204 }] 31 }
noncomputable def o233 : Obj := { cls := Value.none, data := Data.fields #[Value.int 1 0, Value.int 0 0, Value.ref 20, Value.int 5 0, Value.int 0 0, Value.ref 27, Value.int 10 0, Value.int 0 0, Value.ref 47, Value.int 13 0, Value.int 0 0, Value.ref 59, Value.int 25 0, Value.int 0 0, Value.ref 94, Value.int 29 0, Value.int 0 0, Value.ref 99, Value.int 35 0, Value.int 0 0, Value.ref 106, Value.int 41 0, Value.int 0 0, Value.ref 111, Value.int 48 0, Value.int 0 0, Value.ref 118, Value.int 52 0, Value.int 0 0, Value.ref 123, Value.int 65 0, Value.int 0 0, Value.ref 130, Value.int 71 0, Value.int 0 0, Value.ref 137, Value.int 80 0, Value.int 0 0, Value.ref 144, Value.int 83 0, Value.int 0 0, Value.ref 151, Value.int 90 0, Value.int 0 0, Value.ref 158, Value.int 97 0, Value.int 0 0, Value.ref 165, Value.int 99 0, Value.int 0 0, Value.ref 172, Value.int 102 0, Value.int 0 0, Value.ref 179, Value.int 104 0, Value.int 0 0, Value.ref 186, Value.int 112 0, Value.int 0 0, Value.ref 191, Value.int 126 0, Value.int 0 0, Value.ref 198, Value.int 132 0, Value.int 0 0, Value.ref 203] }
noncomputable def o236 : Obj := { cls := Value.none, data := Data.func { name := Str.ofString "_law_due", qualname := Str.ofString "_law_due", params := dA (fnAt 23), body := dB (fnAt 23), scope := dS (fnAt 23), globals := 0, closure := [], defaults := Value.none, kwdefaults := Value.none } }
noncomputable def o237 : Obj := { cls := Value.type "code", data := Data.fields #[Value.str (Str.ofString "_law_due") 440, Value.str (Str.ofString "_law_due") 441, Value.str (Str.ofString "/claim/cut.py") 442, Value.int 112 0, Value.int 5 0, Value.int 0 0, Value.int 0 0, Value.int 3 0, Value.ref 188, Value.bool true, Value.int 181 0, Value.ref 189, Value.none, Value.none, Value.none, Value.ref 190, Value.int 443 0, Value.int 112 0, Value.str (Str.ofString "/claim/cut.py") 444] }
noncomputable def o238 : Obj := { cls := Value.type "function", data := Data.func { name := Str.ofString "_law_due", qualname := Str.ofString "_law_due", params := dA (fnAt 23), body := dB (fnAt 23), scope := dS (fnAt 23), globals := 3, closure := [], defaults := Value.none, kwdefaults := Value.none, pyModule := Value.str (Str.ofString "law_nz0244_01") 381, code := Value.ref 191 } }
noncomputable def o241 : Obj := { cls := Value.type "tuple", data := Data.seq #[Value.str (Str.ofString "deed") 449, Value.str (Str.ofString "e") 450] }
noncomputable def o243 : Obj := { cls := Value.none, data := Data.func { name := Str.ofString "_law_refused", qualname := Str.ofString "_law_refused", params := dA (fnAt 24), body := dB (fnAt 24), scope := dS (fnAt 24), globals := 0, closure := [], defaults := Value.none, kwdefaults := Value.none } }
noncomputable def o244 : Obj := { cls := Value.type "code", data := Data.fields #[Value.str (Str.ofString "_law_refused") 446, Value.str (Str.ofString "_law_refused") 447, Value.str (Str.ofString "/claim/cut.py") 448, Value.int 126 0, Value.int 1 0, Value.int 0 0, Value.int 0 0, Value.int 3 0, Value.ref 193, Value.bool true, Value.int 181 0, Value.ref 194, Value.none, Value.ref 195, Value.ref 196, Value.ref 197, Value.int 451 0, Value.int 126 0, Value.str (Str.ofString "/claim/cut.py") 452] }
noncomputable def o245 : Obj := { cls := Value.type "function", data := Data.func { name := Str.ofString "_law_refused", qualname := Str.ofString "_law_refused", params := dA (fnAt 24), body := dB (fnAt 24), scope := dS (fnAt 24), globals := 3, closure := [], defaults := Value.none, kwdefaults := Value.none, pyModule := Value.str (Str.ofString "law_nz0244_01") 381, code := Value.ref 198 } }
noncomputable def o248 : Obj := { cls := Value.none, data := Data.func { name := Str.ofString "law", qualname := Str.ofString "law", params := dA (fnAt 25), body := dB (fnAt 25), scope := dS (fnAt 25), globals := 0, closure := [], defaults := Value.none, kwdefaults := Value.none } }
noncomputable def o249 : Obj := { cls := Value.type "code", data := Data.fields #[Value.str (Str.ofString "law") 454, Value.str (Str.ofString "law") 455, Value.str (Str.ofString "/claim/cut.py") 456, Value.int 132 0, Value.int 1 0, Value.int 0 0, Value.int 0 0, Value.int 3 0, Value.ref 200, Value.bool true, Value.int 181 0, Value.ref 201, Value.none, Value.none, Value.none, Value.ref 202, Value.int 457 0, Value.int 132 0, Value.str (Str.ofString "/claim/cut.py") 458] }
noncomputable def o250 : Obj := { cls := Value.type "function", data := Data.func { name := Str.ofString "law", qualname := Str.ofString "law", params := dA (fnAt 25), body := dB (fnAt 25), scope := dS (fnAt 25), globals := 3, closure := [], defaults := Value.none, kwdefaults := Value.none, pyModule := Value.str (Str.ofString "law_nz0244_01") 381, code := Value.ref 203 } }
noncomputable def tree250 (P : Params) : BT := .node (boot_o_0 P) (.node (boot_o_1 P) (.node (o232 P) (.node (boot_o_7 P) (.node o43 (.node o68 (.node o105 (.node o171 .nil .nil) (.node o237 .nil .nil)) (.node o137 (.node o203 .nil .nil) .nil)) (.node o87 (.node o121 (.node o187 .nil .nil) .nil) (.node o155 (.node o44 .nil .nil) .nil))) (.node o60 (.node o76 (.node o43 (.node o43 .nil .nil) (.node o245 .nil .nil)) (.node o145 (.node o43 .nil .nil) .nil)) (.node o60 (.node o129 (.node o195 .nil .nil) .nil) (.node o163 (.node o227 .nil .nil) .nil)))) (.node o43 (.node o56 (.node o72 (.node o109 (.node o175 .nil .nil) (.node o241 .nil .nil)) (.node o141 (.node o43 .nil .nil) .nil)) (.node o91 (.node (o125 P) (.node o44 .nil .nil) .nil) (.node o159 (.node o223 .nil .nil) .nil))) (.node o64 (.node o60 (.node o43 (.node o43 .nil .nil) (.node o249 .nil .nil)) (.node o149 (.node o215 .nil .nil) .nil)) (.node o101 (.node o133 (.node o199 .nil .nil) .nil) (.node o167 (.node o231 .nil .nil) .nil))))) (.node (boot_o_5 P) (.node (boot_o_9 P) (.node o54 (.node o70 (.node o107 (.node o173 .nil .nil) (.node o43 .nil .nil)) (.node o44 (.node o44 .nil .nil) .nil)) (.node o43 (.node o123 (.node o189 .nil .nil) .nil) (.node o43 (.node o43 .nil .nil) .nil))) (.node o43 (.node o78 (.node o115 (.node o181 .nil .nil) (.node o44 .nil .nil)) (.node o147 (.node o213 .nil .nil) .nil)) (.node o43 (.node o43 (.node o43 .nil .nil) .nil) (.node o44 (.node o229 .nil .nil) .nil)))) (.node o45 (.node o58 (.node (o74 P) (.node o44 (.node o44 .nil .nil) (.node o243 .nil .nil)) (.node o43 (.node o209 .nil .nil) .nil)) (.node o93 (.node o127 (.node o43 .nil .nil) .nil) (.node o161 (.node o43 .nil .nil) .nil))) (.node o43 (.node o43 (.node o119 (.node o185 .nil .nil) .nil) (.node o44 (.node o217 .nil .nil) .nil)) (.node o43 (.node o135 (.node o201 .nil .nil) .nil) (.node o43 (.node o44 .nil .nil) .nil)))))) (.node (o49 P) (.node (boot_o_4 P) (.node (boot_o_8 P) (.node o44 (.node o43 (.node o43 (.node o43 .nil .nil) (.node o238 .nil .nil)) (.node o43 (.node o43 .nil .nil) .nil)) (.node o88 (.node o122 (.node o188 .nil .nil) .nil) (.node o156 (.node o220 .nil .nil) .nil))) (.node (o61 P) (.node o77 (.node o114 (.node o180 .nil .nil) (.node o43 .nil .nil)) (.node o43 (.node o44 .nil .nil) .nil)) (.node (o98 P) (.node o130 (.node o196 .nil .nil) .nil) (.node o43 (.node o43 .nil .nil) .nil)))) (.node o233 (.node o57 (.node o73 (.node o43 (.node o43 .nil .nil) (.node o43 .nil .nil)) (.node o142 (.node o208 .nil .nil) .nil)) (.node o92 (.node o126 (.node o192 .nil .nil) .nil) (.node o43 (.node o224 .nil .nil) .nil))) (.node o65 (.node (o84 P) (.node o44 (.node o44 .nil .nil) (.node o250 .nil .nil)) (.node o43 (.node o216 .nil .nil) .nil)) (.node o102 (.node o43 (.node o43 .nil .nil) .nil) (.node o168 (.node o43 .nil .nil) .nil))))) (.node (boot_o_6 P) (.node (boot_o_10 P) (.node o43 (.node o71 (.node o108 (.node o174 .nil .nil) (.node o44 .nil .nil)) (.node o140 (.node o206 .nil .nil) .nil)) (.node (o90 P) (.node o124 (.node o43 .nil .nil) .nil) (.node o44 (.node o222 .nil .nil) .nil))) (.node o63 (.node o82 (.node o116 (.node o182 .nil .nil) (.node o248 .nil .nil)) (.node o148 (.node o43 .nil .nil) .nil)) (.node o100 (.node o44 (.node o44 .nil .nil) .nil) (.node o166 (.node o230 .nil .nil) .nil)))) (.node o46 (.node o59 (.node o81 (.node o112 (.node o178 .nil .nil) (.node o244 .nil .nil)) (.node o44 (.node o210 .nil .nil) .nil)) (.node o43 (.node o128 (.node o194 .nil .nil) .nil) (.node o162 (.node o44 .nil .nil) .nil))) (.node o44 (.node o44 (.node o43 (.node o43 .nil .nil) .nil) (.node o154 (.node o43 .nil .nil) .nil)) (.node o44 (.node o136 (.node o202 .nil .nil) .nil) (.node o44 (.node o236 .nil .nil) .nil))))))
noncomputable def heap251 (P : Params) : Heap := { objs := { toList := [boot_o_0 P, boot_o_1 P, o49 P, o232 P, boot_o_4 P, boot_o_5 P, boot_o_6 P, boot_o_7 P, boot_o_8 P, boot_o_9 P, boot_o_10 P, o43, o233, o45, o46, o43, o44, o54, o43, o56, o57, o58, o59, o60, o61 P, o43, o63, o64, o65, o43, o44, o68, o43, o70, o71, o72, o73, o74 P, o81, o76, o77, o78, o82, o60, o84 P, o43, o44, o87, o88, o43, o90 P, o91, o92, o93, o43, o60, o98 P, o43, o100, o101, o102, o43, o44, o105, o43, o107, o108, o109, o43, o44, o112, o43, o114, o115, o116, o43, o44, o119, o43, o121, o122, o123, o124, o125 P, o126, o127, o128, o129, o130, o43, o44, o133, o43, o135, o136, o137, o43, o44, o140, o141, o142, o43, o44, o145, o43, o147, o148, o149, o43, o44, o154, o155, o156, o43, o44, o159, o43, o161, o162, o163, o43, o44, o166, o167, o168, o43, o44, o171, o43, o173, o174, o175, o43, o44, o178, o43, o180, o181, o182, o43, o44, o185, o43, o187, o188, o189, o43, o44, o192, o43, o194, o195, o196, o43, o44, o199, o43, o201, o202, o203, o43, o44, o206, o43, o208, o209, o210, o43, o44, o213, o43, o215, o216, o217, o43, o44, o220, o43, o222, o223, o224, o43, o44, o227, o43, o229, o230, o231, o43, o44, o236, o237, o238, o43, o44, o241, o43, o243, o244, o245, o43, o44, o248, o249, o250] } }
-- the top's run, piece by piece
noncomputable def env0 : Env := { scope := PW.main.scope, locals := mainNs, globals := mainNs, cells := [], code := Value.ref 13, frame := some 14 }
noncomputable def cE : Code := .body (behindTheImports PW) env0
noncomputable def pos0 : Pos := ⟨0, 0, 0, 0⟩
noncomputable def B0 : List Frame := [topFrame pos0]
noncomputable def ann0 : Option Value := some (Value.ref 6)
noncomputable def at0 (P : Params) (os : OsState) : Shared := ⟨boot_heap P, Array.mk [], boot_drawn, boot_toks, os⟩
noncomputable def atL (h : Heap) (k : Nat) (os : OsState) : Shared := ⟨h, Array.mk [], {}, k, os⟩
noncomputable def atT (t : BT) (n k : Nat) (os : OsState) : SharedT := ⟨t, n, {}, Array.mk [], {}, k, os⟩
theorem goA (w : World) (os : OsState) : topGo treeTable PW w 11 ann0 12 (at0 w.params os) (topStub PW) = some (atL (heap46 w.params) 187 os, ⟨denote treeTable cE, cE, pos0, B0⟩) := by kernel_rfl
theorem goB (w : World) (os : OsState) : segRun treeTable PW w 11 ann0 1 1 (atL (heap46 w.params) 187 os) (blockOf (behindTheImports PW) env0 cE pos0 B0) = some (.next, (atT (tree47 w.params) 15 187 os).abs, cE, pos0) := by kernel_rfl
theorem go1 (w : World) (os : OsState) : segRunT treeTable PW w 11 ann0 1 267 (atT (tree47 w.params) 15 187 os) (piecesOf (stsAt 0 3) env0 cE pos0 B0) = some (.next, atT (tree78 w.params) 42 225 os, cE, ⟨5, 0, 9, 30⟩) := by rw [Fast.te10110043849684766642, Fast.te14364793385576792824]; kernel_rfl
theorem go2 (w : World) (os : OsState) : segRunT treeTable PW w 11 ann0 1 223 (atT (tree78 w.params) 42 225 os) (piecesOf (stsAt 3 2) env0 cE ⟨5, 0, 9, 30⟩ B0) = some (.next, atT (tree93 w.params) 54 243 os, cE, ⟨12, 0, 12, 8⟩) := by rw [Fast.te10110043849684766642, Fast.te14364793385576792824]; kernel_rfl
theorem go3 (w : World) (os : OsState) : segRunT treeTable PW w 11 ann0 1 393 (atT (tree93 w.params) 54 243 os) (piecesOf (stsAt 5 5) env0 cE ⟨12, 0, 12, 8⟩ B0) = some (.next, atT (tree149 w.params) 108 323 os, cE, ⟨35, 0, 40, 61⟩) := by rw [Fast.te10110043849684766642, Fast.te14364793385576792824]; kernel_rfl
theorem go4 (w : World) (os : OsState) : segRunT treeTable PW w 11 ann0 1 385 (atT (tree149 w.params) 108 323 os) (piecesOf (stsAt 10 13) env0 cE ⟨35, 0, 40, 61⟩ B0) = some (.next, atT (tree231 w.params) 188 440 os, cE, ⟨104, 0, 111, 90⟩) := by rw [Fast.te10110043849684766642, Fast.te14364793385576792824]; kernel_rfl
theorem go5 (w : World) (os : OsState) : segRunT treeTable PW w 11 ann0 1 83 (atT (tree231 w.params) 188 440 os) (piecesOf (fnAt 23) env0 cE ⟨104, 0, 111, 90⟩ B0) = some (.next, atT (tree250 w.params) 205 460 os, cE, ⟨132, 0, 156, 69⟩) := by rw [Fast.te10110043849684766642, Fast.te14364793385576792824]; kernel_rfl
theorem goZ (w : World) (os : OsState) : topRun treeTable PW w 11 ann0 2 (atT (tree250 w.params) 205 460 os).abs (restOf [] env0 cE ⟨132, 0, 156, 69⟩ B0) = some (atL (heap251 w.params) 460 os) := by kernel_rfl
theorem cut0 : behindTheImports PW = stsAt 0 3 ++ (stsAt 3 2 ++ (stsAt 5 5 ++ (stsAt 10 13 ++ (fnAt 23 ++ [])))) := by kernel_rfl
theorem piece_block0 {tb : String → Option Builtin} {p : Program} {w : World} {n₀ : Nat} {ann : Option Value} {env : Env} {q : Pos} {n N : Nat} {s s' r : Shared} {b l : List Stmt} {c : Code} {pos p' : Pos} (h : segRun tb p w n₀ ann 1 n s (blockOf b env c pos [topFrame q]) = some (.next, s', c, p')) (e : b = l)
    (k : topRun tb p w n₀ ann N s' (restOf l env c p' [topFrame q]) = some r) : topRun tb p w n₀ ann (n + N) s ⟨denote tb (.body b env), c, pos, [topFrame q]⟩ = some r := by
  subst e; exact piece_block h k
theorem run0 (w : World) (os : OsState) : topRun treeTable PW w 11 ann0 (12 + (1 + (267 + (223 + (393 + (385 + (83 + 2))))))) (at0 w.params os) (topStub PW) = some (atL (heap251 w.params) 460 os) :=
  go_top (goA w os) (piece_block0 (goB w os) cut0 (piece_app (segRun_of (go1 w os)) (piece_app (segRun_of (go2 w os)) (piece_app (segRun_of (go3 w os)) (piece_app (segRun_of (go4 w os)) (piece_app (segRun_of (go5 w os)) (goZ w os)))))))
theorem boot0 : opening PW = plainProg PW.main.scope.names := by kernel_rfl
theorem fence0 (s : Shared) : fenceModules? PW s = some s := by kernel_rfl
theorem size0 (w : World) : ((boot_heap w.params).isNs mainGlobals && (Array.mk [] : Array GenState).size == 0, (boot_heap w.params).objs.size, (boot_heap w.params).nsMap mainGlobals "__annotations__") = (true, 11, ann0) := by kernel_rfl
-- the looks at what it leaves
noncomputable def view0 : Program := view PW [0, 2, 3, 5, 6, 7, 9, 10, 11, 12, 13, 14, 15, 17, 18, 19, 20, 21, 22, 23, 24, 25]
noncomputable def xt0 (s : Shared) : Bool := xlAt view0 [] s && recOk PySem.Challenge.rw_nz0244_01.row.records s
section
variable (w : World) (os : OsState)
theorem lookA : (staticsOk (importedModules PW.main.body) (boot_heap w.params) (heap251 w.params) && namesBound PW (heap251 w.params) && gensDone (atL (heap251 w.params) 460 os) && laidKept (boot_heap w.params) (heap251 w.params)) = true := by kernel_rfl
theorem lookB : seen ((recsOf view0).map (·.name)) (ownsOf view0) [] { atL (heap251 w.params) 460 os with gens := #[] } = expectedOf view0 := by kernel_rfl
theorem lookC : (heap251 w.params).bltView = bltViewBooted := by kernel_rfl
theorem lookD : ((heap251 w.params).keysOk (looseW view0 []) ((recsOf view0).map (·.name)) ((litsOf view0).map (·.1)) ((clssOf view0 (looseW view0 [])).map (·.name)) && (heap251 w.params).accountedOkI (importedModules PW.main.body) && (heap251 w.params).isNs mainGlobals && (heap251 w.params).isNs builtinsNs && tablesOk view0 (heap251 w.params) &&
  xt0 (atL (heap251 w.params) 460 os) && (if true = true then (atL (heap251 w.params) 460 os).gens.size == 0 else !leftWithCleanup (atL (heap251 w.params) 460 os).gens)) = true := by kernel_rfl
theorem lookE : tabsOk view0 (atL (heap251 w.params) 460 os) = true := by kernel_rfl
theorem lookF : pinSeenD view0 (drecsOf view0) (atL (heap251 w.params) 460 os) = pinGoodD (drecsOf view0) := by kernel_rfl
theorem lookG : plainSeenE view0 (looseW view0 []) (atL (heap251 w.params) 460 os) = plainGoodE view0 (looseW view0 []) := by kernel_rfl
theorem lookH : plainSeenD view0 [] (atL (heap251 w.params) 460 os) = plainGoodD view0 [] := by kernel_rfl
theorem lookI : wideSeen view0 (atL (heap251 w.params) 460 os) = wideGood view0 := by kernel_rfl
theorem lookJ : clsSeenW view0 [] (atL (heap251 w.params) 460 os) = clsGoodW view0 [] := by kernel_rfl
theorem lookK : openSeen view0 [] (importedModules PW.main.body) xt0 true (atL (heap251 w.params) 460 os) = openGood view0 [] :=
  looks_pair (lookB w os) (looks_pair (lookC w) (looks_pair (lookD w os) (looks_pair (lookE w os) (looks_pair (lookF w os) (looks_pair (lookG w os) (looks_pair (lookH w os) (looks_pair (lookI w os) (lookJ w os))))))))
end
-- the law's own look, by its parts
noncomputable abbrev law0 : OpenLaw := PySem.Challenge.rw_nz0244_01
theorem sayA : namesResolve PW = true := by rw [Fast.te8377067652309620493]; kernel_rfl
theorem sayB : noRoadLSs { strict := !(importedModules PW.main.body).all cThrough.contains, foot := none, bare := List.filter (readsOut PW PW.main.body) [Str.ofString "vars", Str.ofString "dir", Str.ofString "locals"] } PW.main.body = true := by kernel_rfl
theorem sayC : (namesMeet PW PW.main.body fun _ n => attrL n) = true := by kernel_rfl
theorem sayD : noClassBlock law0.prog law0.footing = true := by kernel_rfl
theorem sayE : noRoadLSs { strict := true, foot := some law0.bound', writes := law0.writes, may := law0.may } law0.footing = true := by kernel_rfl
theorem sayF : law0.namesIt = true := by kernel_rfl
theorem sayG : (law0.bound'.all fun n => !builtinNamed n || law0.about == [n] || !law0.reads n) = true := by kernel_rfl
theorem sayH : (namesMeet law0.prog law0.above fun _ n => !law0.own.contains n) = true := by kernel_rfl
theorem said0 : OpenLaw.wellSaid law0 = true := by
  unfold OpenLaw.wellSaid OpenRow.wellSaid OpenRow.partSaid looksOpen
  with_reducible (repeat' apply look_both)
  all_goals first | (with_reducible first | exact sayA | exact sayB | exact sayC | exact sayD | exact sayE | exact sayF | exact sayG | exact sayH) | kernel_rfl
theorem left0 {α : Type} {Yf : Shared → α} {Ya : World → α} (h : ∀ w os, Yf (atL (heap251 w.params) 460 os) = Ya w) : LeftO PW view0 [] xt0 Yf Ya 2818 :=
  LeftO.of_pieces (H₀ := boot_heap) (H₁ := heap251) (boot_open boot0 rfl fence0) size0 run0 rfl fun w => funext fun os => looks_pair (lookA w os) (looks_pair (lookK w os) (h w os))
local macro_rules | `(tactic| refine $t:term) => `(tactic| (refine' $t; (case hl => exact left0 fun w os => by kernel_rfl)))
local macro_rules | `(tactic| o_law) => `(tactic| (refine' holds_law said0 fun said => ?_))
set_option maxRecDepth 100000 in
set_option maxHeartbeats 8000000 in
open_top hd for PySem.Challenge.rw_nz0244_01
end
noncomputable abbrev PR : Program := PySem.Challenge.rw_nz0244_01.row.prog
noncomputable abbrev Led := List (Addr × Obj)

/-- what a call of the def at f with vs does, from any caller's frame, over the ledger news -/
noncomputable def SpecAt (w : World) (f : Addr) (d u : Nat) (news : Led) (vs : List Value) (Post : Value → Led → Prop) : Prop :=
  ∀ (p : Program) (loose : List Str) (mean : ExcName → Option Value) (mg mb : Str → Option Value) (dp un : Nat) (gd : Option (List Code)) (cn : Str) (cs : Scope) (a : Addr) (ccd : Value) (cl : List (Str × Addr)) (outer : List Env) (A₀ : Around) (base h₀ : Heap) (L : Addr) (m : Str → Option Value) (s : Shared)
    (Q E : Value → Shared → Prop),
    Below A₀ base outer h₀ → Fr h₀ L s.heap m → (hd.heap_1 w.params).In h₀ → News h₀ L s.heap news → Top p loose mean mg mb h₀ → cs.kind = .function → dp + d < recursionLimit → un + u < cLine →
    (∀ r tl h' tk', Fr h₀ L h' m → News h₀ L h' (tl ++ news) → (∀ q ∈ news, ∀ x ∈ tl, @Ne Nat q.1 x.1) → Post r tl → Q r { s with heap := h', toks := tk' }) →
    wpAny (model PR w) (ktrTop dp un gd cn cs L a ccd cl outer) (call (.ref f) vs) Q E s

theorem SpecAt.use {w : World} {f : Addr} {d u : Nat} {news : Led} {vs : List Value} {Post : Value → Led → Prop} (C : SpecAt w f d u news vs Post)
    {p : Program} {loose : List Str} {mean : ExcName → Option Value} {mg mb : Str → Option Value} {dp un : Nat} {gd : Option (List Code)} {cn : Str} {cs : Scope} {a : Addr} {ccd : Value} {cl : List (Str × Addr)} {outer : List Env} {A₀ : Around} {base h₀ : Heap} {L : Addr} {m : Str → Option Value} {s : Shared}
    {Q E : Value → Shared → Prop} (B : Below A₀ base outer h₀) (F : Fr h₀ L s.heap m) (X : (hd.heap_1 w.params).In h₀) (N : News h₀ L s.heap news) (T : Top p loose mean mg mb h₀) (hk : cs.kind = .function) (hd : dp + d < recursionLimit) (hu : un + u < cLine)
    (ret : ∀ r tl h' tk', Fr h₀ L h' m → News h₀ L h' (tl ++ news) → (∀ q ∈ news, ∀ x ∈ tl, @Ne Nat q.1 x.1) → Post r tl → Q r { s with heap := h', toks := tk' }) :
    wpAny (model PR w) (ktrTop dp un gd cn cs L a ccd cl outer) (call (.ref f) vs) Q E s := C _ _ _ _ _ _ _ _ _ _ _ _ _ _ _ _ _ _ _ _ _ _ B F X N T hk hd hu ret

noncomputable def intsD (r : List Int) : Dat := .list (r.map .int)
noncomputable def rowsD (R : List (List Int)) : Dat := .list (R.map intsD)

/-- the ledger bears, at v, a list of ints -/
noncomputable def IntsIn (news : Led) (v : Value) (r : List Int) : Prop := DatIn news v (intsD r)
/-- the ledger bears, at v, a list of lists of ints -/
noncomputable def RowsIn (news : Led) (v : Value) (R : List (List Int)) : Prop := DatIn news v (rowsD R)

theorem IntsIn.mono {news news' : Led} {v : Value} {r : List Int} (h : IntsIn news v r) (hs : ∀ p ∈ news, p ∈ news') : IntsIn news' v r := DatIn.mono hs h
theorem RowsIn.mono {news news' : Led} {v : Value} {R : List (List Int)} (h : RowsIn news v R) (hs : ∀ p ∈ news, p ∈ news') : RowsIn news' v R := DatIn.mono hs h

theorem datAll_ints {news : Led} : ∀ {vs : List Value} {r : List Int}, DatAll news vs (r.map Dat.int) → IntsAre vs r
  | [], [], _ => .nil
  | [], _ :: _, h => nomatch h
  | _ :: _, [], h => nomatch h
  | _ :: _, _ :: _, .cons (.int i t) r => .cons i t (datAll_ints r)
theorem intsAre_dat {news : Led} : ∀ {vs : List Value} {r : List Int}, IntsAre vs r → DatAll news vs (r.map Dat.int)
  | _, _, .nil => .nil
  | _, _, .cons i t r => .cons (.int i t) (intsAre_dat r)

theorem IntsIn.open {news : Led} {v : Value} {r : List Int} (h : IntsIn news v r) : ∃ a vs n, v = .ref a ∧ (a, listOf vs.toArray n) ∈ news ∧ IntsAre vs r := by
  cases h with
  | list hm hd => exact ⟨_, _, _, rfl, hm, datAll_ints hd⟩
theorem IntsIn.of {news : Led} {a : Addr} {vs : List Value} {n : Nat} {r : List Int} (hm : (a, listOf vs.toArray n) ∈ news) (hi : IntsAre vs r) : IntsIn news (.ref a) r := .list hm (intsAre_dat hi)
theorem RowsIn.open {news : Led} {v : Value} {R : List (List Int)} (h : RowsIn news v R) : ∃ a vs n, v = .ref a ∧ (a, listOf vs.toArray n) ∈ news ∧ DatAll news vs (R.map intsD) := by
  cases h with
  | list hm hd => exact ⟨_, _, _, rfl, hm, hd⟩
theorem RowsIn.of {news : Led} {a : Addr} {vs : List Value} {n : Nat} {R : List (List Int)} (hm : (a, listOf vs.toArray n) ∈ news) (hd : DatAll news vs (R.map intsD)) : RowsIn news (.ref a) R := .list hm hd

/-- a rectangle of samples -/
structure Rect (R : List (List Int)) (W H : Nat) : Prop where
  w0 : 0 < W
  h0 : 0 < H
  w1 : W < 1048576
  h1 : H < 1048576
  len : R.length = H
  row : ∀ r ∈ R, r.length = W
theorem Rect.get {R : List (List Int)} {W H : Nat} (h : Rect R W H) {k : Nat} (hk : k < H) : (R.getD k []).length = W := by
  have hk' : k < R.length := by rw [h.len]; exact hk
  rw [List.getD_eq_getElem?_getD, List.getElem?_eq_getElem hk']
  exact h.row _ (List.getElem_mem hk')

section
variable {prog : Program} {w : World} {A : Around} {E : Value → Shared → Prop} {s : Shared} {h₀ : Heap} {L l : Addr} {news L9 : Led} {k : Int} {u : Tok} {Q : Value → Shared → Prop}
theorem rows_getItem {R : List (List Int)} {W H : Nat} (N : News h₀ L s.heap news) (hR : RowsIn L9 (.ref l) R) (hs : ∀ p ∈ L9, p ∈ news) (hr : Rect R W H) (h0 : 0 ≤ k) (h1 : k < (H : Int))
    (h : ∀ a, IntsIn L9 (.ref a) (R.getD k.toNat []) → (R.getD k.toNat []).length = W → Q (.ref a) s) : wpAny (model prog w) A (getItem (.ref l) (.int k u)) Q E s := by
  obtain ⟨a, vs, n, e, hm, hd⟩ := hR.open
  cases e
  have hl := hr.len
  have hH := hr.h1
  refine kd_getItem N (hs _ hm) hd h0 (by simp; omega) (by omega) (fun v d hd1 _ hv => ?_)
  have hk : k.toNat < R.length := by omega
  have e : d = intsD (R.getD k.toNat []) := by
    rw [List.getElem?_map, List.getElem?_eq_getElem hk] at hd1
    rw [List.getD_eq_getElem?_getD, List.getElem?_eq_getElem hk]
    simpa using hd1.symm
  subst e
  obtain ⟨a, vs, n, e, hm', hi⟩ := IntsIn.open hv
  subst e
  exact h a (IntsIn.of hm' hi) (hr.get (by omega))
theorem ints_getItem {r : List Int} (N : News h₀ L s.heap news) (hR : IntsIn L9 (.ref l) r) (hs : ∀ p ∈ L9, p ∈ news) (h0 : 0 ≤ k) (h1 : k < (r.length : Int)) (hfit : k < 2 ^ 63)
    (h : ∀ t, Q (.int (r.getD k.toNat 0) t) s) : wpAny (model prog w) A (getItem (.ref l) (.int k u)) Q E s := by
  obtain ⟨a, vs, n, e, hm, hd⟩ := hR.open
  cases e
  refine kd_getItem N (hs _ hm) (intsAre_dat (news := []) hd) h0 (by simpa using h1) hfit (fun v d hd1 _ hv => ?_)
  have hk : k.toNat < r.length := by omega
  have e : d = .int (r.getD k.toNat 0) := by
    rw [List.getElem?_map, List.getElem?_eq_getElem hk] at hd1
    rw [List.getD_eq_getElem?_getD, List.getElem?_eq_getElem hk]
    simpa using hd1.symm
  subst e
  cases hv
  exact h _
theorem RowsIn.isList {R : List (List Int)} (N : News h₀ L s.heap news) (hR : RowsIn L9 (.ref l) R) (hs : ∀ p ∈ L9, p ∈ news) : ∃ its, s.heap.IsList l its := by
  obtain ⟨a, vs, n, e, hm, hd⟩ := hR.open
  cases e
  exact ⟨vs.toArray, _, (N _ (hs _ hm)).1, rfl, n, rfl⟩
theorem IntsIn.isList {r : List Int} (N : News h₀ L s.heap news) (hR : IntsIn L9 (.ref l) r) (hs : ∀ p ∈ L9, p ∈ news) : ∃ its, s.heap.IsList l its := by
  obtain ⟨a, vs, n, e, hm, hd⟩ := hR.open
  cases e
  exact ⟨vs.toArray, _, (N _ (hs _ hm)).1, rfl, n, rfl⟩
theorem rows_item {value slice : PySem.Expr} {R : List (List Int)} {W H : Nat} (N : News h₀ L s.heap news) (hR : RowsIn L9 (.ref l) R) (hs : ∀ p ∈ L9, p ∈ news) (hr : Rect R W H) (h0 : 0 ≤ k) (h1 : k < (H : Int))
    (h : ∀ a, IntsIn L9 (.ref a) (R.getD k.toNat []) → (R.getD k.toNat []).length = W → Q (.ref a) s)
    (hq : subscripted slice false (.ref l) (.int k u) = operate [.ref l, .int k u] (getItem (.ref l) (.int k u)) := by with_unfolding_all rfl) :
    wpAny (model prog w) A (subscriptTail value slice (.ref l) (.int k u)) Q E s := by
  obtain ⟨its, hl⟩ := hR.isList N hs
  exact tail_any hl.typeIs slot_list_getitem.lookup (rows_getItem N hR hs hr h0 h1 h) hq
theorem ints_item {value slice : PySem.Expr} {r : List Int} (N : News h₀ L s.heap news) (hR : IntsIn L9 (.ref l) r) (hs : ∀ p ∈ L9, p ∈ news) (h0 : 0 ≤ k) (h1 : k < (r.length : Int)) (hfit : k < 2 ^ 63)
    (h : ∀ t, Q (.int (r.getD k.toNat 0) t) s)
    (hq : subscripted slice false (.ref l) (.int k u) = operate [.ref l, .int k u] (getItem (.ref l) (.int k u)) := by with_unfolding_all rfl) :
    wpAny (model prog w) A (subscriptTail value slice (.ref l) (.int k u)) Q E s := by
  obtain ⟨its, hl⟩ := hR.isList N hs
  exact tail_any hl.typeIs slot_list_getitem.lookup (ints_getItem N hR hs h0 h1 hfit h) hq
theorem rows_len {R : List (List Int)} {W H : Nat} (N : News h₀ L s.heap news) (hR : RowsIn L9 (.ref l) R) (hs : ∀ p ∈ L9, p ∈ news) (hr : Rect R W H)
    (h : Q (.int (H : Int) (s.toks + 1)) { s with toks := s.toks + 1 + 1 }) : wpAny (model prog w) A (call (.builtin "len") [.ref l]) Q E s := by
  obtain ⟨a, vs, n, e, hm, hd⟩ := hR.open
  cases e
  have hl := hr.len
  have hH := hr.h1
  exact kd_len N (hs _ hm) hd (by simp; omega) (by simpa [hl] using h)
theorem ints_len {r : List Int} {W : Nat} (N : News h₀ L s.heap news) (hR : IntsIn L9 (.ref l) r) (hs : ∀ p ∈ L9, p ∈ news) (hW : r.length = W) (hfit : (W : Int) < 2 ^ 63)
    (h : Q (.int (W : Int) (s.toks + 1)) { s with toks := s.toks + 1 + 1 }) : wpAny (model prog w) A (call (.builtin "len") [.ref l]) Q E s := by
  obtain ⟨a, vs, n, e, hm, hd⟩ := hR.open
  cases e
  exact kd_len N (hs _ hm) (intsAre_dat (news := []) hd) (by simp; omega) (by simpa [hW] using h)
end

noncomputable def keptIn (place size : Int) : Int := if place < 0 then 0 else if place < size then place else size - 1
theorem keptIn_lo {place size : Int} (h : 0 < size) : 0 ≤ keptIn place size := by unfold keptIn; split <;> (try split) <;> omega
theorem keptIn_hi {place size : Int} (h : 0 < size) : keptIn place size < size := by unfold keptIn; split <;> (try split) <;> omega

/-- the sample of the rows at x, y, beyond the edges the last one -/
noncomputable def atR (R : List (List Int)) (W H : Nat) (x y : Int) : Int := (R.getD (keptIn y (H : Int)).toNat []).getD (keptIn x (W : Int)).toNat 0

-- a call by what is told of the def; the caller's room by arithmetic
local macro_rules | `(tactic| k_room) => `(tactic| ktr_room)
local macro_rules | `(tactic| k_units) => `(tactic| ktr_units)
local macro_rules | `(tactic| k_all) => `(tactic| assumption)
local macro_rules | `(tactic| k_mem) => `(tactic| ((repeat (first | exact List.Mem.head _ | refine List.Mem.tail _ ?_)); all_goals assumption))
local macro_rules | `(tactic| ktr_call $x $c) => `(tactic| (
  (with_reducible show wpAny _ _ (call (Value.ref $c) _) _ _ _);
  k_dflt (refine' SpecAt.use $x ?kB ?kF ?kX ?kN ?kT ?kk ?kd ?ku ?kR);
  (case kB => k_asm); (case kF => k_asm); (case kX => k_asm); (case kN => k_asm); (case kT => k_asm); (case kk => first | exact rfl | assumption); (case kd => ktr_room); (case ku => ktr_units)))
-- behind a call that hands back an int and makes nothing
local macro_rules | `(tactic| ktr_unf) => `(tactic| (intro r' tl' h' tk' F' N' hl' hp'; obtain ⟨e1', t', e2'⟩ := hp'; subst e1'; subst e2'; clear hl'; (try simp only [List.nil_append] at N'); (try dsimp only); (try k_sweep); (try k_fold)))
local macro_rules | `(tactic| walk_at "call builtin:len") => `(tactic| (k_here; (with_reducible show wpAny _ _ (call (Value.builtin "len") [Value.ref _]) _ _ _); k_dflt (first
  | (refine' rows_len ?k1 ?k2 ?k3 ?k4 ?_; (case k1 => k_asm); (case k2 => assumption); (case k3 => kcj_all); (case k4 => assumption))
  | (refine' ints_len ?k1 ?k2 ?k3 ?k4 ?k5 ?_; (case k1 => k_asm); (case k2 => assumption); (case k3 => kcj_all); (case k4 => assumption); (case k5 => omega))); k_whole))
local macro_rules | `(tactic| walk_at "subscriptTail") => `(tactic| (k_here; (with_reducible show wpAny _ _ (subscriptTail _ _ (Value.ref _) (Value.int _ _)) _ _ _); k_dflt (first
  | (refine' rows_item ?k1 ?k2 ?k3 ?k4 ?k5 ?k6 ?_ ?k7; (case k1 => k_asm); (case k2 => assumption); (case k3 => kcj_all); (case k4 => assumption); (case k5 => omega); (case k6 => omega); (case k7 => with_unfolding_all rfl); intro a' hI' hL')
  | (refine' ints_item ?k1 ?k2 ?k3 ?k4 ?k5 ?k6 ?_ ?k7; (case k1 => k_asm); (case k2 => assumption); (case k3 => kcj_all); (case k4 => omega); (case k5 => omega); (case k6 => omega); (case k7 => with_unfolding_all rfl); intro t'))))
-- two addresses that differ: told so by a fact at hand, else by arithmetic
local macro_rules | `(tactic| k_ne) => `(tactic| (refine neN ?_; (try dsimp only); first | assumption | (refine Ne.symm ?_; assumption) | ((repeat ((with_reducible rename _ ∧ _ => hA9); first | exact hA9.1 | exact hA9.1.symm | exact hA9.2.1 | exact hA9.2.1.symm | exact hA9.2.2.1 | exact hA9.2.2.1.symm | exact hA9.2.2.2.1 | exact hA9.2.2.2.1.symm | clear hA9)); done) | omega))
-- arithmetic: first without cases, then without the facts that would be split in vain
local macro_rules | `(tactic| omega) => `(tactic| first | omega -splitDisjunctions | ((repeat ((with_reducible rename _ ∧ _ => hA9); clear hA9)); first | ((repeat ((with_reducible rename _ ≠ _ => hA9); clear hA9)); omega +splitDisjunctions) | omega +splitDisjunctions) | omega +splitDisjunctions)
-- a builtin's method with one argument: not by way of the rule for functions, which takes seconds to fall
local macro_rules | `(tactic| walk_at "callWith") => `(tactic| ((with_reducible show wpAny _ _ (callWith _ (Prod.fst (Value.builtin _, [Value.ref _])) _ _ _) _ _ _); refine callWith_method1 ?_))
-- a ledger within a longer one: by its tails, ahead of the library's search
local macro_rules | `(tactic| kcj_all) => `(tactic| (with_reducible (intro p9 hp9; (repeat (first | exact hp9 | refine List.mem_cons_of_mem _ ?_)); done)))
theorem off_D : True := by w_top off; trivial
set_option maxRecDepth 100000 in
set_option maxHeartbeats 8000000 in
theorem kept_in_spec (w : World) (place : Int) (t : Tok) (size : Int) (u : Tok) (news : Led) : SpecAt w 95 1 8 news [.int place t, .int size u] (fun r tl => tl = [] ∧ ∃ t, r = .int (keptIn place size) t) := by
  unfold SpecAt
  intro p loose mean mg mb dp un gd cn cs a ccd cl outer A₀ base h₀ L m s Q E B F X N T hk hd hu hret
  refine wpAny_call ?_
  k_dflt ktr_enter
  k_steps
  · exact hret _ [] _ _ (by assumption) (by assumption) (fun _ _ _ h => nomatch h) ⟨rfl, _, by rw [keptIn, if_pos (by assumption)]⟩
  · exact hret _ [] _ _ (by assumption) (by assumption) (fun _ _ _ h => nomatch h) ⟨rfl, _, by rw [keptIn, if_neg (by assumption), if_pos (by assumption)]⟩
  · exact hret _ [] _ _ (by assumption) (by assumption) (fun _ _ _ h => nomatch h) ⟨rfl, _, by rw [keptIn, if_neg (by assumption), if_neg (by assumption)]⟩
local macro_rules | `(tactic| walk_at "call ref") => `(tactic| (k_here; ktr_call (kept_in_spec _ _ _ _ _ _) 95; ktr_unf))

noncomputable def farF (place : Int) : Int := if place.fmod 2 = 0 then place.fdiv 2 - 1 else place.fdiv 2 + 1
set_option maxRecDepth 100000 in
set_option maxHeartbeats 8000000 in
theorem far_spec (w : World) (place : Int) (t : Tok) (news : Led) : SpecAt w 180 1 8 news [.int place t] (fun r tl => tl = [] ∧ ∃ t, r = .int (farF place) t) := by
  unfold SpecAt
  intro p loose mean mg mb dp un gd cn cs a ccd cl outer A₀ base h₀ L m s Q E B F X N T hk hd hu hret
  refine wpAny_call ?_
  k_dflt ktr_enter
  k_steps
  · exact hret _ [] _ _ (by assumption) (by assumption) (fun _ _ _ h => nomatch h) ⟨rfl, _, by rw [farF, if_pos (by assumption)]⟩
  · exact hret _ [] _ _ (by assumption) (by assumption) (fun _ _ _ h => nomatch h) ⟨rfl, _, by rw [farF, if_neg (by assumption)]⟩
local macro_rules | `(tactic| walk_at "call ref") => `(tactic| (k_here; ktr_call (far_spec _ _ _ _) 180; ktr_unf))

theorem keptMM {y : Int} {H : Nat} (h : 0 < H) : (if (if y < (H : Int) - 1 then y else (H : Int) - 1) > 0 then if y < (H : Int) - 1 then y else (H : Int) - 1 else 0) = keptIn y H := by
  unfold keptIn
  split <;> split <;> (try split) <;> (try split) <;> omega

set_option maxRecDepth 100000 in
set_option maxHeartbeats 8000000 in
theorem law_at_spec (w : World) (l : Addr) (R : List (List Int)) (W H : Nat) (x : Int) (t : Tok) (y : Int) (u : Tok) (news : Led) (hR : RowsIn news (.ref l) R) (hr : Rect R W H) :
    SpecAt w 173 1 8 news [.ref l, .int x t, .int y u] (fun r tl => tl = [] ∧ ∃ t, r = .int (atR R W H x y) t) := by
  unfold SpecAt
  intro p loose mean mg mb dp un gd cn cs a ccd cl outer A₀ base h₀ L m s Q E B F X N T hk hd hu hret
  have hw0 := hr.w0; have hh0 := hr.h0; have hw1 := hr.w1; have hh1 := hr.h1
  refine wpAny_call ?_
  k_dflt ktr_enter
  k_steps
  exact hret _ [] _ _ (by assumption) (by assumption) (fun _ _ _ h => nomatch h) ⟨rfl, _, by rw [keptMM hh0, keptMM hw0]; rfl⟩
-- the claims that a call's facts must show first
local macro_rules | `(tactic| walk_at "call ref") => `(tactic| (k_here; ktr_call (law_at_spec _ _ _ _ _ _ _ _ _ _ ?h1 ?h2) 173; (case h1 => first | assumption | exact RowsIn.mono (by assumption) (by kcj_all)); (case h2 => assumption); ktr_unf))
theorem off_E : True := by w_top off; trivial
/-- the ledger bears, at x, a plane of that width and height with those rows -/
noncomputable def PlaneIn (w : World) (news : Led) (x : Addr) (W H : Int) (R : List (List Int)) : Prop :=
  ∃ (dx : Addr) (t u k1 k2 k3 : Tok) (l : Addr), (x, instObj 84 dx) ∈ news ∧
    (dx, dictOf [⟨PyData.keyHash w.params (Str.ofString "width"), .str (Str.ofString "width") k1, .int W t⟩, ⟨PyData.keyHash w.params (Str.ofString "height"), .str (Str.ofString "height") k2, .int H u⟩, ⟨PyData.keyHash w.params (Str.ofString "rows"), .str (Str.ofString "rows") k3, .ref l⟩] 3) ∈ news ∧
    RowsIn news (.ref l) R
theorem PlaneIn.mono {w : World} {news news' : Led} {x : Addr} {W H : Int} {R : List (List Int)} (h : PlaneIn w news x W H R) (hs : ∀ p ∈ news, p ∈ news') : PlaneIn w news' x W H R := by
  obtain ⟨dx, t, u, k1, k2, k3, l, h1, h2, h3⟩ := h
  exact ⟨dx, t, u, k1, k2, k3, l, hs _ h1, hs _ h2, h3.mono hs⟩

/-- a plane's own two objects; its rows at l -/
noncomputable def PlaneOb (w : World) (news : Led) (x : Addr) (W H : Int) (l : Addr) : Prop :=
  ∃ (dx : Addr) (t u k1 k2 k3 : Tok), (x, instObj 84 dx) ∈ news ∧
    (dx, dictOf [⟨PyData.keyHash w.params (Str.ofString "width"), .str (Str.ofString "width") k1, .int W t⟩, ⟨PyData.keyHash w.params (Str.ofString "height"), .str (Str.ofString "height") k2, .int H u⟩, ⟨PyData.keyHash w.params (Str.ofString "rows"), .str (Str.ofString "rows") k3, .ref l⟩] 3) ∈ news
theorem PlaneOb.with {w : World} {n1 n2 news : Led} {x l : Addr} {W H : Int} {R : List (List Int)} (h : PlaneOb w n1 x W H l) (hR : RowsIn n2 (.ref l) R) (h1 : ∀ p ∈ n1, p ∈ news) (h2 : ∀ p ∈ n2, p ∈ news) : PlaneIn w news x W H R := by
  obtain ⟨dx, t, u, k1, k2, k3, m1, m2⟩ := h
  exact ⟨dx, t, u, k1, k2, k3, l, h1 _ m1, h1 _ m2, hR.mono h2⟩
set_option maxRecDepth 100000 in
set_option maxHeartbeats 8000000 in
theorem plane_make (w : World) (W H : Int) (t u : Tok) (l : Addr) (news : Led) :
    SpecAt w 84 3 24 news [.int W t, .int H u, .ref l] (fun r tl => ∃ x, r = .ref x ∧ PlaneOb w tl x W H l) := by
  unfold SpecAt
  intro p loose mean mg mb dp un gd cn cs a ccd cl outer A₀ base h₀ L m s Q E B F X N T hk hd hu hret
  k_dflt (refine' call_cls ?k1 ?k2 ?k3 ?k4 ?k5 ?k6 ?_; (case k1 => k_asm); (case k2 => k_asm); (case k3 => k_asm); (case k4 => k_is); (case k5 => k_is); (case k6 => k_is); k_whole)
  intro x' d' h' F' N' l1 l2
  have l3 := ltN l2
  k_dflt ktr_enter
  k_steps
  rename News _ _ _ _ => kN9
  refine hret _ [_, _] _ _ (by assumption) kN9 ?_ ⟨x', rfl, d', _, _, _, _, _, .head _, .tail _ (.head _)⟩
  intro q hq z hz
  have e1 := l1 q hq
  have e2 : d' < x' := l2
  rcases List.mem_cons.mp hz with rfl | hz
  · exact Nat.ne_of_lt (Nat.lt_trans e1 e2)
  · rw [List.mem_singleton.mp hz]; exact Nat.ne_of_lt e1
local macro_rules | `(tactic| walk_at "call ref") => `(tactic| (k_here; ktr_call (plane_make _ _ _ _ _ _ _) 84; intro r' tl' h' tk' F' N' hl' hp'; obtain ⟨x', e1', hP'⟩ := hp'; subst e1'; (try dsimp only); (try k_sweep); (try k_fold)))

set_option maxRecDepth 100000 in
set_option maxHeartbeats 8000000 in
theorem at_spec (w : World) (x : Addr) (W H : Nat) (R : List (List Int)) (X : Int) (t : Tok) (Y : Int) (u : Tok) (news : Led) (hP : PlaneIn w news x W H R) (hr : Rect R W H) :
    SpecAt w 74 2 24 news [.ref x, .int X t, .int Y u] (fun r tl => tl = [] ∧ ∃ t, r = .int (atR R W H X Y) t) := by
  unfold SpecAt
  intro p loose mean mg mb dp un gd cn cs a ccd cl outer A₀ base h₀ L m s Q E B F X' N T hk hd hu hret
  have hw0 := hr.w0; have hh0 := hr.h0; have hw1 := hr.w1; have hh1 := hr.h1
  obtain ⟨dx, tw, th, k1, k2, k3, l, m1, m2, hR⟩ := hP
  have b1 := keptIn_lo (place := X) (size := W) (by omega)
  have b2 := keptIn_hi (place := X) (size := W) (by omega)
  have b3 := keptIn_lo (place := Y) (size := H) (by omega)
  have b4 := keptIn_hi (place := Y) (size := H) (by omega)
  refine wpAny_call ?_
  k_dflt ktr_enter
  k_steps
  exact hret _ [] _ _ (by assumption) (by assumption) (fun _ _ _ h => nomatch h) ⟨rfl, _, rfl⟩
local macro_rules | `(tactic| walk_at "call ref") => `(tactic| (k_here; ktr_call (at_spec _ _ _ _ _ _ _ _ _ _ ?h1 ?h2) 74; (case h1 => first | assumption | exact PlaneIn.mono (by assumption) (by kcj_all)); (case h2 => assumption); ktr_unf))

noncomputable def nearF (place : Int) : Int := place.fdiv 2
noncomputable def farIn (place size : Int) : Int := if farF place < 0 ∨ size ≤ farF place then nearF place else farF place
theorem pair_eq {a : Addr} {x y x' y' : Int} {t1 t2 : Tok} {n : Nat} (ex : x = x') (ey : y = y') : ∃ b s1 s2 k, Value.ref a = Value.ref b ∧ [(a, ({ cls := .type "tuple", data := .seq #[.int x t1, .int y t2] n } : Obj))] = [(b, ({ cls := .type "tuple", data := .seq #[.int x' s1, .int y' s2] k } : Obj))] := by
  subst ex; subst ey; exact ⟨_, _, _, _, rfl, rfl⟩
set_option maxRecDepth 100000 in
set_option maxHeartbeats 8000000 in
theorem near_far_spec (w : World) (place : Int) (t : Tok) (size : Int) (u : Tok) (news : Led) :
    SpecAt w 131 1 8 news [.int place t, .int size u] (fun r tl => ∃ a t1 t2 n, r = .ref a ∧ tl = [(a, { cls := .type "tuple", data := .seq #[.int (nearF place) t1, .int (farIn place size) t2] n })]) := by
  unfold SpecAt
  intro p loose mean mg mb dp un gd cn cs a ccd cl outer A₀ base h₀ L m s Q E B F X' N T hk hd hu hret
  refine wpAny_call ?_
  k_dflt ktr_enter
  k_steps
  all_goals (
    rename News _ _ _ _ => kN9
    rename ∀ q ∈ news, q.1 < _ => l9
    refine hret _ [_] _ _ (by assumption) kN9 (fun q hq z hz => by rw [List.mem_singleton.mp hz]; exact Nat.ne_of_lt (l9 q hq)) (pair_eq rfl ?_)
    simp only [farIn, farF, nearF]
    (repeat' split) <;> omega)
local macro_rules | `(tactic| walk_at "call ref") => `(tactic| (k_here; ktr_call (near_far_spec _ _ _ _ _ _) 131; intro r' tl' h' tk' F' N' hl' hp'; obtain ⟨a', t1', t2', n', e1', e2'⟩ := hp'; subst e1'; subst e2'; (try simp only [List.cons_append, List.nil_append] at N'); (try dsimp only); (try k_sweep); (try k_fold)))
theorem off_F : True := by w_top off; trivial
/-- what a call does where the ledger turns -/
noncomputable def SpecTo (w : World) (f : Addr) (d u : Nat) (news : Led) (vs : List Value) (Post : Value → Led → Prop) : Prop :=
  ∀ (p : Program) (loose : List Str) (mean : ExcName → Option Value) (mg mb : Str → Option Value) (dp un : Nat) (gd : Option (List Code)) (cn : Str) (cs : Scope) (a : Addr) (ccd : Value) (cl : List (Str × Addr)) (outer : List Env) (A₀ : Around) (base h₀ : Heap) (L : Addr) (m : Str → Option Value) (s : Shared)
    (Q E : Value → Shared → Prop),
    Below A₀ base outer h₀ → Fr h₀ L s.heap m → (hd.heap_1 w.params).In h₀ → News h₀ L s.heap news → Top p loose mean mg mb h₀ → cs.kind = .function → dp + d < recursionLimit → un + u < cLine →
    (∀ r news' h' tk', Fr h₀ L h' m → News h₀ L h' news' → Post r news' → Q r { s with heap := h', toks := tk' }) →
    wpAny (model PR w) (ktrTop dp un gd cn cs L a ccd cl outer) (call (.ref f) vs) Q E s

/-- the two ints that a source holds -/
noncomputable def srcObj (a b : Int) (ta tb : Tok) (n : Nat) : Obj := listOf #[.int a ta, .int b tb] n

section
variable {prog : Program} {w : World} {A : Around} {E : Value → Shared → Prop} {s : Shared} {h₀ : Heap} {L l : Addr} {news : Led} {u : Tok} {v0 v1 : Value} {n : Nat} {Q : Value → Shared → Prop} {value slice : PySem.Expr}
theorem src_get0 (N : News h₀ L s.heap news) (hm : (l, listOf #[v0, v1] n) ∈ news) (h : Q v0 s)
    (hq : subscripted slice false (.ref l) (.int 0 u) = operate [.ref l, .int 0 u] (getItem (.ref l) (.int 0 u)) := by with_unfolding_all rfl) :
    wpAny (model prog w) A (subscriptTail value slice (.ref l) (.int 0 u)) Q E s := by
  have hl : s.heap.IsList l #[v0, v1] := ⟨_, (N _ hm).1, rfl, n, rfl⟩
  exact tail_any hl.typeIs slot_list_getitem.lookup (wpAny_getItem_list hl (by decide) (by decide) (by rfl) h) hq
theorem src_get1 (N : News h₀ L s.heap news) (hm : (l, listOf #[v0, v1] n) ∈ news) (h : Q v1 s)
    (hq : subscripted slice false (.ref l) (.int 1 u) = operate [.ref l, .int 1 u] (getItem (.ref l) (.int 1 u)) := by with_unfolding_all rfl) :
    wpAny (model prog w) A (subscriptTail value slice (.ref l) (.int 1 u)) Q E s := by
  have hl : s.heap.IsList l #[v0, v1] := ⟨_, (N _ hm).1, rfl, n, rfl⟩
  exact tail_any hl.typeIs slot_list_getitem.lookup (wpAny_getItem_list hl (by decide) (by decide) (by rfl) h) hq
theorem mul_fit {a b : Int} {t u : Tok} (h1 : -(2 ^ 64) < a) (h2 : a < 2 ^ 64) (h : Q (.int (a * b) s.toks) { s with toks := s.toks + 1 }) : wpAny (model prog w) A (binaryOp .Mult (.int a t) (.int b u)) Q E s :=
  mul_int h (IntMulOk.of_left (intBits_le_64 h1 h2))
theorem fdiv_fit {a b : Int} {t u : Tok} (h1 : 0 < b) (h2 : b < 1073741824) (h : Q (.int (a.fdiv b) s.toks) { s with toks := s.toks + 1 }) : wpAny (model prog w) A (binaryOp .FloorDiv (.int a t) (.int b u)) Q E s :=
  floordiv_int (by omega) h (Or.inl (PyProof.noPylong_small (by omega)))
theorem fmod_fit {a b : Int} {t u : Tok} (h1 : 0 < b) (h : Q (.int (a.fmod b) s.toks) { s with toks := s.toks + 1 }) : wpAny (model prog w) A (binaryOp .Mod (.int a t) (.int b u)) Q E s :=
  mod_int' (by omega) h
end
local macro_rules | `(tactic| walk_at "subscriptTail Name Constant ref int") => `(tactic| (k_here; (with_reducible show wpAny _ _ (subscriptTail _ _ (Value.ref _) (Value.int 0 _)) _ _ _); k_dflt (refine src_get0 (by k_asm) (by first | exact List.Mem.head _ | assumption) ?_)))
local macro_rules | `(tactic| walk_at "subscriptTail Name Constant ref int") => `(tactic| (k_here; (with_reducible show wpAny _ _ (subscriptTail _ _ (Value.ref _) (Value.int 1 _)) _ _ _); k_dflt (refine src_get1 (by k_asm) (by first | exact List.Mem.head _ | assumption) ?_)))
local macro_rules | `(tactic| walk_at "binaryOp Mult int int") => `(tactic| (k_here; (with_reducible refine mul_fit ?h1 ?h2 ?_); (case h1 => omega); (case h2 => omega)))
local macro_rules | `(tactic| walk_at "binaryOp FloorDiv int int") => `(tactic| (k_here; (with_reducible refine fdiv_fit ?h1 ?h2 ?_); (case h1 => omega); (case h2 => omega)))
local macro_rules | `(tactic| walk_at "binaryOp Mod int int") => `(tactic| (k_here; (with_reducible refine fmod_fit ?h1 ?_); (case h1 => omega)))

set_option maxRecDepth 100000 in
set_option maxHeartbeats 8000000 in
theorem take_spec0 (w : World) (src : Addr) (a b top : Int) (ta tb t : Tok) (n : Nat) (rest : Led) (hoff : ∀ p ∈ rest, p.1 ≠ src) (ha : 0 ≤ a) (hb : 0 ≤ b) (hb1 : b < 2147483647) (ht : 0 < top) (ht1 : top < 1048576) :
    SpecTo w 159 1 16 ((src, listOf #[.int a ta, .int b tb] n) :: rest) [.ref src, .int top t] (fun r news' => ∃ d td a' b' ta' tb', r = .int d td ∧ news' = (src, listOf #[.int a' ta', .int b' tb'] n) :: rest ∧ 0 ≤ d ∧ d < top ∧ 0 ≤ a' ∧ 0 ≤ b' ∧ b' < 2147483647) := by
  unfold SpecTo
  intro p loose mean mg mb dp un gd cn cs a₀ ccd cl outer A₀ base h₀ L m s Q E B F X' N T hk hd hu hret
  have f1 : 0 ≤ (b * 39373 + 7).fmod 2147483647 := Int.fmod_nonneg_of_pos _ (by decide)
  have f2 : (b * 39373 + 7).fmod 2147483647 < 2147483647 := Int.fmod_lt_of_pos _ (by decide)
  refine wpAny_call ?_
  k_dflt ktr_enter
  k_steps
  · rename News _ _ _ _ => kN9
    exact hret _ _ _ _ (by assumption) kN9 ⟨_, _, _, _, _, _, rfl, rfl, Int.fmod_nonneg_of_pos _ ht, Int.fmod_lt_of_pos _ ht, Int.fdiv_nonneg ha (by omega), hb, hb1⟩
  · rename News _ _ _ _ => kN9
    exact hret _ _ _ _ (by assumption) kN9 ⟨_, _, _, _, _, _, rfl, rfl, Int.fmod_nonneg_of_pos _ ht, Int.fmod_lt_of_pos _ ht, ha, f1, f2⟩
theorem off_G : True := by w_top off; trivial
/-- a source's list: two ints, the second below the prime -/
noncomputable def SrcOk (o : Obj) : Prop := ∃ a b ta tb n, o = listOf #[.int a ta, .int b tb] n ∧ 0 ≤ a ∧ 0 ≤ b ∧ b < 2147483647
theorem SpecTo.use {w : World} {f : Addr} {d u : Nat} {news : Led} {vs : List Value} {Post : Value → Led → Prop} (C : SpecTo w f d u news vs Post)
    {p : Program} {loose : List Str} {mean : ExcName → Option Value} {mg mb : Str → Option Value} {dp un : Nat} {gd : Option (List Code)} {cn : Str} {cs : Scope} {a : Addr} {ccd : Value} {cl : List (Str × Addr)} {outer : List Env} {A₀ : Around} {base h₀ : Heap} {L : Addr} {m : Str → Option Value} {s : Shared}
    {Q E : Value → Shared → Prop} (B : Below A₀ base outer h₀) (F : Fr h₀ L s.heap m) (X : (hd.heap_1 w.params).In h₀) (N : News h₀ L s.heap news) (T : Top p loose mean mg mb h₀) (hk : cs.kind = .function) (hd : dp + d < recursionLimit) (hu : un + u < cLine)
    (ret : ∀ r news' h' tk', Fr h₀ L h' m → News h₀ L h' news' → Post r news' → Q r { s with heap := h', toks := tk' }) :
    wpAny (model PR w) (ktrTop dp un gd cn cs L a ccd cl outer) (call (.ref f) vs) Q E s := C _ _ _ _ _ _ _ _ _ _ _ _ _ _ _ _ _ _ _ _ _ _ B F X N T hk hd hu ret
theorem SpecTo.at {w : World} {f : Addr} {d u : Nat} {news : Led} {src : Addr} {o : Obj} {g : Obj → Led} {vs : List Value} {Post : Value → Obj → Prop} (U : UpdF src o news g)
    (h : ∀ rest, (∀ p ∈ rest, p.1 ≠ src) → (∀ p ∈ news, p.1 ≠ src → p ∈ rest) → SpecTo w f d u ((src, o) :: rest) vs (fun r nw => ∃ o', nw = (src, o') :: rest ∧ Post r o')) :
    SpecTo w f d u news vs (fun r nw => ∃ o', nw = g o' ∧ Post r o') := by
  obtain ⟨own, post, rfl, hg, h1, h2⟩ := U.split
  have h := h (own ++ post) (fun p hp => (List.mem_append.mp hp).elim (h1 p) (h2 p)) (fun p hp hne => by
    rcases List.mem_append.mp hp with hp | hp
    · exact List.mem_append_left _ hp
    · rcases List.mem_cons.mp hp with rfl | hp
      · exact absurd rfl hne
      · exact List.mem_append_right _ hp)
  intro p loose mean mg mb dp un gd cn cs a ccd cl outer A₀ base h₀ L m s Q E B F X N T hk hd hu hret
  refine h.use B F X (fun q hq => N q ?_) T hk hd hu fun r nw h' tk' F' N' hp => ?_
  · rcases List.mem_cons.mp hq with rfl | hq
    · exact List.mem_append_right _ (.head _)
    · exact (List.mem_append.mp hq).elim (List.mem_append_left _) fun h => List.mem_append_right _ (.tail _ h)
  · obtain ⟨o', rfl, hp⟩ := hp
    refine hret r (own ++ (src, o') :: post) h' tk' F' (fun q hq => N' q ?_) ⟨o', (hg o').symm, hp⟩
    rcases List.mem_append.mp hq with hq | hq
    · exact .tail _ (List.mem_append_left _ hq)
    · rcases List.mem_cons.mp hq with rfl | hq
      · exact .head _
      · exact .tail _ (List.mem_append_right _ hq)

theorem take_spec (w : World) (src : Addr) (o : Obj) (top : Int) (t : Tok) (rest : Led) (hoff : ∀ p ∈ rest, p.1 ≠ src) (ho : SrcOk o) (ht : 0 < top) (ht1 : top < 1048576) :
    SpecTo w 159 1 16 ((src, o) :: rest) [.ref src, .int top t] (fun r nw => ∃ o', nw = (src, o') :: rest ∧ SrcOk o' ∧ ∃ d td, r = .int d td ∧ 0 ≤ d ∧ d < top) := by
  obtain ⟨a, b, ta, tb, n, rfl, ha, hb, hb1⟩ := ho
  intro p loose mean mg mb dp un gd cn cs a₀ ccd cl outer A₀ base h₀ L m s Q E B F X N T hk hd hu hret
  refine (take_spec0 w src a b top ta tb t n rest hoff ha hb hb1 ht ht1).use B F X N T hk hd hu fun r nw h' tk' F' N' hp => ?_
  obtain ⟨d, td, a', b', ta', tb', e1, e2, h1, h2, h3, h4, h5⟩ := hp
  exact hret r nw h' tk' F' N' ⟨_, e2, ⟨a', b', ta', tb', n, rfl, h3, h4, h5⟩, d, td, e1, h1, h2⟩
/-- a draw, wherever the source stands in the ledger -/
theorem take_at (w : World) (src : Addr) (o : Obj) (top : Int) (t : Tok) (news : Led) (g : Obj → Led) (U : UpdF src o news g) (ho : SrcOk o) (ht : 0 < top) (ht1 : top < 1048576) :
    SpecTo w 159 1 16 news [.ref src, .int top t] (fun r nw => ∃ o', nw = g o' ∧ SrcOk o' ∧ ∃ d td, r = .int d td ∧ 0 ≤ d ∧ d < top) :=
  SpecTo.at U fun rest hoff _ => take_spec w src o top t rest hoff ho ht ht1

section
variable {prog : Program} {w : World} {A : Around} {E : Value → Shared → Prop} {s : Shared} {h₀ : Heap} {L l : Addr} {news : Led} {k : Int} {u : Tok} {vs : List Value} {n : Nat} {Q : Value → Shared → Prop} {value slice : PySem.Expr}
theorem list_item (N : News h₀ L s.heap news) (hm : (l, listOf vs.toArray n) ∈ news) (h0 : 0 ≤ k) (h1 : k < (vs.length : Int)) (hfit : k < 2 ^ 63) (h : ∀ v, vs[k.toNat]? = some v → Q v s)
    (hq : subscripted slice false (.ref l) (.int k u) = operate [.ref l, .int k u] (getItem (.ref l) (.int k u)) := by with_unfolding_all rfl) :
    wpAny (model prog w) A (subscriptTail value slice (.ref l) (.int k u)) Q E s := by
  have hl : s.heap.IsList l vs.toArray := ⟨_, (N _ hm).1, rfl, n, rfl⟩
  have hk : k.toNat < vs.length := by omega
  exact tail_any hl.typeIs slot_list_getitem.lookup (wpAny_getItem_list hl h0 hfit (by simp) (h _ (List.getElem?_eq_getElem hk))) hq
theorem list_len (N : News h₀ L s.heap news) (hm : (l, listOf vs.toArray n) ∈ news) (hfit : (vs.length : Int) < 2 ^ 63)
    (h : Q (.int (vs.length : Int) (s.toks + 1)) { s with toks := s.toks + 1 + 1 }) : wpAny (model prog w) A (call (.builtin "len") [.ref l]) Q E s := by
  have hl : s.heap.IsList l vs.toArray := ⟨_, (N _ hm).1, rfl, n, rfl⟩
  have e : vs.toArray.size = vs.length := by rw [List.size_toArray]
  exact len_list hl (by rw [e]; exact hfit) (by rw [e]; exact h)
end

local macro_rules | `(tactic| walk_at "call ref") => `(tactic| (k_here; (with_reducible show wpAny _ _ (call (Value.ref 159) _) _ _ _); k_dflt (refine' SpecTo.use (take_at _ _ _ _ _ _ _ ?h1 ?h2 ?h3 ?h4) ?kB ?kF ?kX ?kN ?kT ?kk ?kd ?ku ?_); (case kB => k_asm); (case kF => k_asm); (case kX => k_asm); (case kN => k_asm); (case kT => k_asm); (case kk => first | exact rfl | assumption); (case kd => ktr_room); (case ku => ktr_units); (case h1 => k_dflt k_updF); (case h2 => assumption); (case h3 => omega); (case h4 => omega); intro r' nw' h' tk' F' N' hp'; obtain ⟨o', e1', hO', d', t', e2', hlo', hhi'⟩ := hp'; subst e1'; subst e2'; (try dsimp only at N'); (try dsimp only); (try k_sweep); (try k_fold)))
local macro_rules | `(tactic| walk_at "call builtin:len") => `(tactic| (k_here; (with_reducible show wpAny _ _ (call (Value.builtin "len") [Value.ref _]) _ _ _); k_dflt (refine' list_len ?k1 ?k2 ?k3 ?_; (case k1 => k_asm); (case k2 => first | (refine List.Mem.tail _ ?_; assumption) | assumption); (case k3 => omega))))
local macro_rules | `(tactic| walk_at "subscriptTail") => `(tactic| (k_here; (with_reducible show wpAny _ _ (subscriptTail _ _ (Value.ref _) (Value.int _ _)) _ _ _); k_dflt (refine' list_item ?k1 ?k2 ?k3 ?k4 ?k5 ?_ ?k6; (case k1 => k_asm); (case k2 => first | (refine List.Mem.tail _ ?_; assumption) | assumption); (case k3 => omega); (case k4 => omega); (case k5 => omega); (case k6 => with_unfolding_all rfl); intro v' hv')))
set_option maxRecDepth 100000 in
set_option maxHeartbeats 4000000 in
theorem one_spec (w : World) (src l : Addr) (o : Obj) (vs : List Value) (n : Nat) (rest : Led) (hoff : ∀ p ∈ rest, p.1 ≠ src) (ho : SrcOk o) (hl : (l, listOf vs.toArray n) ∈ rest) (h0 : 0 < vs.length) (h1 : vs.length < 1048576) :
    SpecTo w 166 2 24 ((src, o) :: rest) [.ref src, .ref l] (fun r nw => ∃ o', nw = (src, o') :: rest ∧ SrcOk o' ∧ ∃ k, k < vs.length ∧ vs[k]? = some r) := by
  unfold SpecTo
  intro p loose mean mg mb dp un gd cn cs a₀ ccd cl outer A₀ base h₀ L m s Q E B F X' N T hk hd hu hret
  refine wpAny_call ?_
  k_dflt ktr_enter
  k_steps
  · rename News _ _ _ _ => kN9
    rename vs[_]? = some _ => hv9
    exact hret _ _ _ _ (by assumption) kN9 ⟨_, rfl, by assumption, _, by omega, hv9⟩
/-- one of the things, wherever the source stands in the ledger -/
theorem one_at (w : World) (src l : Addr) (o : Obj) (vs : List Value) (n : Nat) (news : Led) (g : Obj → Led) (U : UpdF src o news g) (ho : SrcOk o) (hl : (l, listOf vs.toArray n) ∈ news) (hne : l ≠ src) (h0 : 0 < vs.length) (h1 : vs.length < 1048576) :
    SpecTo w 166 2 24 news [.ref src, .ref l] (fun r nw => ∃ o', nw = g o' ∧ SrcOk o' ∧ ∃ k, k < vs.length ∧ vs[k]? = some r) :=
  SpecTo.at U fun rest hoff hin => one_spec w src l o vs n rest hoff ho (hin _ hl hne) h0 h1
theorem off_H : True := by w_top off; trivial
/-- the law's soft sample -/
noncomputable def softF (R : List (List Int)) (W H : Nat) (x y across down : Int) : Int :=
  if across = 2 ∧ down = 2 then
    (9 * atR R W H (x.fdiv 2) (y.fdiv 2) + 3 * atR R W H (farF x) (y.fdiv 2) + 3 * atR R W H (x.fdiv 2) (farF y) + atR R W H (farF x) (farF y) + 8 - x.fmod 2).fdiv 16
  else if across = 2 then (3 * atR R W H (x.fdiv 2) y + atR R W H (farF x) y + 1 + x.fmod 2).fdiv 4
  else (3 * atR R W H x (y.fdiv 2) + atR R W H x (farF y) + 1 + y.fmod 2).fdiv 4

set_option maxRecDepth 100000 in
set_option maxHeartbeats 4000000 in
theorem soft_spec (w : World) (l : Addr) (R : List (List Int)) (W H : Nat) (x : Int) (t : Tok) (y : Int) (u : Tok) (across down : Int) (t1 t2 : Tok) (news : Led) (hR : RowsIn news (.ref l) R) (hr : Rect R W H) :
    SpecAt w 187 2 24 news [.ref l, .int x t, .int y u, .int across t1, .int down t2] (fun r tl => tl = [] ∧ ∃ t, r = .int (softF R W H x y across down) t) := by
  unfold SpecAt
  intro p loose mean mg mb dp un gd cn cs a ccd cl outer A₀ base h₀ L m s Q E B F X N T hk hd hu hret
  refine wpAny_call ?_
  k_dflt ktr_enter
  k_steps
  all_goals exact hret _ [] _ _ (by assumption) (by assumption) (fun _ _ _ h => nomatch h) ⟨rfl, ktn_int (by simp only [softF]; (repeat' split) <;> first | rfl | (exfalso; omega))⟩
local macro_rules | `(tactic| walk_at "call ref") => `(tactic| (k_here; ktr_call (soft_spec _ _ _ _ _ _ _ _ _ _ _ _ _ _ ?h1 ?h2) 187; (case h1 => first | assumption | exact RowsIn.mono (by assumption) (by kcj_all)); (case h2 => assumption); ktr_unf))
theorem off_I : True := by w_top off; trivial
/-- the walk stops here: the loop is taken by hand -/
noncomputable def Stop (P : Prop) : Prop := P
theorem Stop.out {P : Prop} (h : Stop P) : P := h
local macro_rules | `(tactic| walk_at "pyIter ref") => `(tactic| (k_here; (with_reducible show wpAny _ _ (pyIter (Value.ref _)) (fun it s₂ => LoopAtV _ _ _ _ _ _ _ _ _ it s₂) _ _); refine Stop.out ?_))

section
variable {prog : Program} {w : World} {A : Around} {E : Value → Shared → Prop} {s : Shared} {env : Env} {h₀ : Heap} {x : Str} {body : List Stmt} {Q : Flow → Shared → Prop}
/-- a turn's end: the list at D has grown, what is added lies apart -/
noncomputable def TurnPost (h₀ : Heap) (L : Addr) (x : Str) (temps : List Str) (m₀ : Str → Option Value) (D : Addr) (rest own : Led) (items : Led → List Value → Prop) (s₁ : Shared) (f : Flow) (s₂ : Shared) : Prop :=
  f = .next ∧ ∃ h' tk m' led add ys k, s₂ = { s₁ with heap := h', toks := tk } ∧ Fr h₀ L h' m' ∧ News h₀ L h' led ∧ (∀ p ∈ (D, listOf ys.toArray k) :: (add ++ (rest ++ own)), p ∈ led) ∧
    (∀ q ∈ add, q.1 ≠ D ∧ ∀ p ∈ rest ++ own, p.1 ≠ q.1) ∧ items (add ++ rest) ys ∧ (∀ z, z ≠ x → temps.contains z = false → m' z = m₀ z)
theorem TurnPost.intro {L : Addr} {temps : List Str} {m₀ : Str → Option Value} {D : Addr} {rest own : Led} {items : Led → List Value → Prop} {s₁ : Shared} {h' : Heap} {tk : Nat} {m' : Str → Option Value} {led : Led} (add : Led) (ys : List Value) (k : Nat)
    (F : Fr h₀ L h' m') (N : News h₀ L h' led) (hs : ∀ p ∈ (D, listOf ys.toArray k) :: (add ++ (rest ++ own)), p ∈ led) (ho : ∀ q ∈ add, q.1 ≠ D ∧ ∀ p ∈ rest ++ own, p.1 ≠ q.1) (hi : items (add ++ rest) ys) (hm : ∀ z, z ≠ x → temps.contains z = false → m' z = m₀ z) :
    TurnPost h₀ L x temps m₀ D rest own items s₁ .next { s₁ with heap := h', toks := tk } := ⟨rfl, h', tk, m', led, add, ys, k, rfl, F, N, hs, ho, hi, hm⟩
/-- the names that a turn stores are forgotten -/
noncomputable def forget (x : Str) (temps : List Str) (m₀ u : Str → Option Value) (z : Str) : Option Value := if z = x then u z else if temps.contains z then u z else m₀ z
theorem grow_loop {r D : Addr} {n : Nat} {t₀ u₀ v₀ : Tok} {m₀ : Str → Option Value} {base : Led} {ys₀ : List Value} {k₀ : Nat} (temps : List Str) (items : Nat → Led → List Value → Prop)
    (hh : A.handled = none) (hr : IsRange s.heap r 0 (n : Int) 1 t₀ u₀ v₀) (hn : n < 2097152) (F : Fr h₀ env.locals s.heap m₀) (N : News h₀ env.locals s.heap ((D, listOf ys₀.toArray k₀) :: base)) (hoff : ∀ p ∈ base, p.1 ≠ D) (h0 : items 0 base ys₀)
    (turn : ∀ (i : Nat) t (u : Str → Option Value) ys k rest own h tk, i < n → items i rest ys → (∀ p ∈ base, p ∈ rest) → (∀ p ∈ rest ++ own, p.1 ≠ D) →
      Fr h₀ env.locals h (fun z => if z = x then some (.int (i : Int) t) else if temps.contains z then u z else m₀ z) → News h₀ env.locals h ((D, listOf ys.toArray k) :: (rest ++ own)) →
      wpAny (model prog w) A (execs body env) (TurnPost h₀ env.locals x temps m₀ D rest own (items (i + 1)) { s with heap := h, toks := tk }) E { s with heap := h, toks := tk })
    (done : ∀ ys k rest (u : Str → Option Value) h tk, items n rest ys → (∀ p ∈ base, p ∈ rest) → (∀ p ∈ rest, p.1 ≠ D) → Fr h₀ env.locals h (forget x temps m₀ u) → News h₀ env.locals h ((D, listOf ys.toArray k) :: rest) → Q .next { s with heap := h, toks := tk }) :
    wpAny (model prog w) A (pyIter (.ref r)) (fun it s₂ => LoopAtV prog w A h₀ env x body Q E it s₂) E s := by
  have hsmall : Builtin.Range.small 0 (n : Int) 1 = true := small_one (by omega) (by omega) (by omega) (by omega)
  refine wpAny_pyIter_range hr hsmall ?_
  have hsz : Builtin.Range.rangeSize 0 (n : Int) 1 = (n : Int) := by have := rangeSize_nat 0 (n : Int); simpa using this
  have W : Walks prog w A s.heap.objs.size [s.heap.objs.size] [s.heap.objs.size] n (fun i v => i < n ∧ ∃ t, v = .int (0 + i * 1) t)
      (fun i h => IsRangeIter h s.heap.objs.size (0 + (i : Nat) * 1) ((n : Int) - (i : Nat)) 1) := (Walks.range hh _ 0 1 n).bound
  refine kdr_loop (fun i m nx => ∃ ys k rest, nx = (D, listOf ys.toArray k) :: rest ∧ items i rest ys ∧ (∀ p ∈ base, p ∈ rest) ∧ (∀ p ∈ rest, p.1 ≠ D) ∧ ∀ z, z ≠ x → temps.contains z = false → m z = m₀ z)
    W (fun _ h => h) (fun _ h => h) ?_ ?_ ?_ ?_ (by show IsRangeIter _ _ _ _ _; rw [hsz]; simpa using Heap.get?_push_size _ rfl) (F.push _) (fun p hp => ⟨Heap.get?_push_of_some _ (N p hp).1, (N p hp).2⟩)
    ⟨ys₀, k₀, base, rfl, h0, fun _ h => h, hoff, fun _ _ _ => rfl⟩ ?_ ?_
  · intro i h hi b hb
    rw [List.mem_singleton.mp hb]
    exact ⟨_, hi⟩
  · intro hm
    exact absurd F.ns.lt (by rw [List.mem_singleton.mp hm]; exact Nat.lt_irrefl _)
  · intro b hb
    rw [List.mem_singleton.mp hb]
    exact next_is_new F
  · intro p hp hI
    exact absurd (Heap.lt_size (N p hp).1) ((List.mem_singleton.mp hI) ▸ Nat.lt_irrefl _)
  · rintro i v m₁ nx h tk own hi ⟨_, t, rfl⟩ hoff' ⟨ys, k, rest, rfl, hit, hb, hD, hm⟩ F₁ N₁
    have hown : ∀ p ∈ own, p.1 ≠ D ∧ ∀ q ∈ rest, p.1 ≠ q.1 := fun p hp => ⟨hoff' p hp D (by simp), fun q hq => hoff' p hp q.1 (by simp only [List.map_cons]; exact List.mem_cons_of_mem _ (List.mem_map_of_mem hq))⟩
    have e : (fun y => if y = x then some (Value.int (0 + (i : Int) * 1) t) else m₁ y) = fun z => if z = x then some (.int (i : Int) t) else if temps.contains z then m₁ z else m₀ z := by
      funext z
      by_cases h1 : z = x
      · simp [h1]
      · simp only [if_neg h1]
        by_cases h2 : temps.contains z = true
        · rw [if_pos h2]
        · rw [if_neg h2]; exact hm z h1 (by simpa using h2)
    rw [e] at F₁
    refine wpAny_mono (turn i t m₁ ys k rest own h tk hi hit hb (fun p hp => (List.mem_append.mp hp).elim (hD p) fun h => (hown p h).1) F₁ N₁) (fun f s₂ hp => ?_) fun _ _ e => e
    obtain ⟨rfl, h', tk', m', led, add, ys', k', rfl, F', N', hs, ho, hi', hm'⟩ := hp
    refine ⟨h', tk', m', led, (D, listOf ys'.toArray k') :: (add ++ rest), rfl, F', N', fun p hp => hs p ?_, fun p hp => hs p ?_, ?_, ys', k', add ++ rest, rfl, hi', fun p hp => List.mem_append_right _ (hb p hp), ?_, hm'⟩
    · rcases List.mem_cons.mp hp with rfl | hp
      · exact .head _
      · exact .tail _ ((List.mem_append.mp hp).elim (fun h => List.mem_append_left _ h) fun h => List.mem_append_right _ (List.mem_append_left _ h))
    · exact .tail _ (List.mem_append_right _ (List.mem_append_right _ hp))
    · intro p hp b hb'
      obtain ⟨q, hq, rfl⟩ := List.mem_map.mp hb'
      rcases List.mem_cons.mp hq with rfl | hq
      · exact (hown p hp).1
      · rcases List.mem_append.mp hq with hq | hq
        · exact (ho q hq).2 p (List.mem_append_right _ hp)
        · exact (hown p hp).2 q hq
    · intro p hp
      rcases List.mem_append.mp hp with hp | hp
      · exact (ho p hp).1
      · exact hD p hp
  · rintro m₁ nx h tk ⟨ys, k, rest, rfl, hit, hb, hD, hm⟩ F₁ N₁
    refine done ys k rest m₁ h tk hit hb hD ?_ N₁
    have e : forget x temps m₀ m₁ = m₁ := by
      funext z
      unfold forget
      by_cases h1 : z = x
      · simp [h1]
      · simp only [if_neg h1]
        by_cases h2 : temps.contains z = true
        · rw [if_pos h2]
        · rw [if_neg h2]; exact (hm z h1 (by simpa using h2)).symm
    rw [e]; exact F₁
end

local macro_rules | `(tactic| walk_at "call builtin:list.append") => `(tactic| (k_here; (with_reducible show wpAny _ _ (call (Value.builtin _) [Value.ref _, _]) _ _ _); k_dflt (refine' append_K ?k1 ?k2 ?k3 ?_ ?z; (case k1 => k_asm); (case k2 => k_asm); (case k3 => k_upd); (case z => first | (rw [PySem.sizeLine_eq]; (try simp only [List.size_toArray, Array.size_push]); omega) | size_fits); k_whole); intro h' F' N'; (try k_sweep)))
noncomputable def drOne (v : List Int) (scale left right : Int) (i : Nat) : List Int :=
  [(3 * v.getD i 0 + (if 0 < i then v.getD (i - 1) 0 else v.getD i 0) + left).fdiv (4 * scale), (3 * v.getD i 0 + (if i + 1 < v.length then v.getD (i + 1) 0 else v.getD i 0) + right).fdiv (4 * scale)]
noncomputable def doubledRow (v : List Int) (scale left right : Int) : List Int := (List.range v.length).flatMap (drOne v scale left right)

theorem dr_step {ys : List Value} {v : List Int} {scale left right : Int} {i : Nat} {a b : Int} {ta tb : Tok} (hit : IntsAre ys ((List.range i).flatMap (drOne v scale left right))) (e : [a, b] = drOne v scale left right i) :
    IntsAre (ys ++ [.int a ta] ++ [.int b tb]) ((List.range (i + 1)).flatMap (drOne v scale left right)) := by
  rw [List.range_succ, List.flatMap_append, List.append_assoc]
  refine IntsAre.append hit ?_
  simp only [List.flatMap_cons, List.flatMap_nil, List.append_nil, ← e]
  exact .cons _ _ (.cons _ _ .nil)
theorem dr_len (v : List Int) (scale left right : Int) (i : Nat) : ((List.range i).flatMap (drOne v scale left right)).length = 2 * i := by
  induction i with
  | zero => rfl
  | succ i ih => rw [List.range_succ, List.flatMap_append, List.length_append, ih]; simp [drOne]; omega
set_option maxRecDepth 100000 in
set_option maxHeartbeats 4000000 in
theorem dr_spec (w : World) (l : Addr) (v : List Int) (n : Nat) (scale left right : Int) (t1 t2 t3 : Tok) (news : Led) (hV : IntsIn news (.ref l) v) (hn : v.length = n) (hn1 : n < 1048576) (hs : 0 < scale) (hs1 : scale < 1048576) :
    SpecAt w 138 1 16 news [.ref l, .int scale t1, .int left t2, .int right t3] (fun r tl => ∃ a ys k, r = .ref a ∧ tl = [(a, listOf ys.toArray k)] ∧ IntsAre ys (doubledRow v scale left right)) := by
  unfold SpecAt
  intro p loose mean mg mb dp un gd cn cs a ccd cl outer A₀ base h₀ L m s Q E B F X N T hk hd hu hret
  refine wpAny_call ?_
  k_dflt ktr_enter
  k_steps
  · rename IsRange _ _ _ _ _ _ _ _ => hr9
    rename Fr _ _ _ _ => F9
    rename News _ _ _ _ => N9
    rename ∀ q ∈ news, q.1 < _ => l9
    change wpAny _ _ _ _ _ _
    refine grow_loop [Str.ofString "ahead", Str.ofString "behind"] (fun i _ ys => IntsAre ys ((List.range i).flatMap (drOne v scale left right))) rfl hr9 (by omega) F9 N9 (fun p hp => Nat.ne_of_lt (l9 p hp)) .nil ?_ ?_
    · intro i t u ys k rest own h tk hi hit hb hD F1 N1
      have hV1 : IntsIn (rest ++ own) (.ref l) v := hV.mono fun p hp => List.mem_append_left _ (hb p hp)
      have hlen : ys.length = 2 * i := by rw [hit.length, dr_len]
      have e1 : ((i : Int)).toNat = i := by omega
      have e2 : ((i : Int) - 1).toNat = i - 1 := by omega
      have e3 : ((i : Int) + 1).toNat = i + 1 := by omega
      clear hr9 F9 N9
      k_steps
      all_goals (
        rename News _ _ _ _ => N9
        simp only [List.push_toArray] at N9
        refine TurnPost.intro [] _ _ (by assumption) N9 (fun p hp => hp) (fun _ h => nomatch h) (dr_step hit ?_) ?_
        · simp only [drOne, e1, e2, e3, hn]; congr 1 <;> (try congr 1) <;> (repeat' split) <;> first | rfl | omega
        · intro z h1 h2
          have h3 : z ≠ Str.ofString "ahead" := by rintro rfl; exact absurd h2 (by decide)
          have h4 : z ≠ Str.ofString "behind" := by rintro rfl; exact absurd h2 (by decide)
          simp only [if_neg h1, if_neg h3, if_neg h4, h2]; rfl)
    · intro ys k rest u h tk hit hb hD F1 N1
      clear hr9 F9 N9
      k_steps
      rename News h₀ L _ _ => N9
      exact hret _ [_] _ _ (by assumption) (fun p hp => N9 p (by rcases List.mem_cons.mp hp with rfl | hp; exact .head _; exact .tail _ (hb p hp))) (fun q hq z hz => by rw [List.mem_singleton.mp hz]; exact Nat.ne_of_lt (l9 q hq)) ⟨_, _, _, rfl, rfl, by unfold doubledRow; rw [hn]; exact hit⟩
local macro_rules | `(tactic| walk_at "call ref") => `(tactic| (k_here; ktr_call (dr_spec _ _ _ _ _ _ _ _ _ _ _ ?h1 ?h2 ?h3 ?h4 ?h5) 138; (case h1 => first | assumption | exact IntsIn.mono (by assumption) (by kcj_all)); (case h2 => first | assumption | rfl); (case h3 => omega); (case h4 => omega); (case h5 => omega); intro r' tl' h' tk' F' N' hl' hp'; obtain ⟨a', ys', k', e1', e2', hI'⟩ := hp'; subst e1'; subst e2'; (try simp only [List.cons_append, List.nil_append] at N'); (try dsimp only); (try k_sweep); (try k_fold)))
-- the entry of a def whose names are captured
local macro_rules | `(tactic| ktr_enter) => `(tactic| (refine' code_defC ?k1 ?k2 ?k3 ?k4 ?k5 ?kA ?kF ?kK ?k6 ?k7 ?k8 ?k9 ?kB ?kD ?_ ?c2 ?c3 ?c4; (case kA => exact rfl); (case kF => exact rfl); (case kK => assumption); (case k1 => k_asm); (case k2 => k_asm); (case k3 => k_asm); (case k4 => k_asm); (case k5 => k_asm); (case k6 => k_is); (case k7 => k_is); (case k8 => ktr_room); (case k9 => exact BindsTo.of_eq rfl); (case kB => exact rfl); (case kD => decide +kernel); (case c2 => exact rfl); (case c3 => exact rfl); (case c4 => exact rfl); k_whole; intro g' L' h' tk' cells' FG' F' N' Y' B' X' T' l1; (try k_lt l1); k_cells Y'; (try simp only [List.cons_append, List.nil_append] at N'); (try dsimp only); (try k_fold)))
theorem off_J : True := by w_top off; trivial
section
variable {prog : Program} {w : World} {A : Around} {E : Value → Shared → Prop} {s : Shared} {env : Env} {h₀ : Heap} {target : Expr} {body : List Stmt} {Q : Flow → Shared → Prop}
/-- a turn's end where some cells turn too -/
noncomputable def TurnC {σ : Type} (h₀ : Heap) (L : Addr) (C : σ → Led) (ok : σ → Prop) (adr : List Addr) (temps : List Str) (m₀ : Str → Option Value) (D : Addr) (rest own : Led) (items : Led → List Value → Prop) (s₁ : Shared) (f : Flow) (s₂ : Shared) : Prop :=
  f = .next ∧ ∃ h' tk m' led add ys k c, s₂ = { s₁ with heap := h', toks := tk } ∧ ok c ∧ Fr h₀ L h' m' ∧ News h₀ L h' led ∧ (∀ p ∈ (D, listOf ys.toArray k) :: (C c ++ (add ++ (rest ++ own))), p ∈ led) ∧
    (∀ q ∈ add, q.1 ≠ D ∧ q.1 ∉ adr ∧ ∀ p ∈ rest ++ own, p.1 ≠ q.1) ∧ items (add ++ rest) ys ∧ (∀ z, temps.contains z = false → m' z = m₀ z)
theorem TurnC.intro {σ : Type} {L : Addr} {C : σ → Led} {ok : σ → Prop} {adr : List Addr} {temps : List Str} {m₀ : Str → Option Value} {D : Addr} {rest own : Led} {items : Led → List Value → Prop} {s₁ : Shared} {h' : Heap} {tk : Nat} {m' : Str → Option Value} {led : Led} (c : σ) (add : Led) (ys : List Value) (k : Nat)
    (F : Fr h₀ L h' m') (N : News h₀ L h' led) (hc : ok c) (hs : ∀ p ∈ (D, listOf ys.toArray k) :: (C c ++ (add ++ (rest ++ own))), p ∈ led) (ho : ∀ q ∈ add, q.1 ≠ D ∧ q.1 ∉ adr ∧ ∀ p ∈ rest ++ own, p.1 ≠ q.1) (hi : items (add ++ rest) ys) (hm : ∀ z, temps.contains z = false → m' z = m₀ z) :
    TurnC h₀ L C ok adr temps m₀ D rest own items s₁ .next { s₁ with heap := h', toks := tk } := ⟨rfl, h', tk, m', led, add, ys, k, c, rfl, hc, F, N, hs, ho, hi, hm⟩
theorem grow_loopC {σ : Type} {r D : Addr} {n : Nat} {t₀ u₀ v₀ : Tok} {m₀ : Str → Option Value} {base : Led} {ys₀ : List Value} {k₀ : Nat} (C : σ → Led) (ok : σ → Prop) (adr : List Addr) (c₀ : σ) (temps : List Str) (items : Nat → Led → List Value → Prop)
    (hh : A.handled = none) (hr : IsRange s.heap r 0 (n : Int) 1 t₀ u₀ v₀) (hn : n < 2097152) (F : Fr h₀ env.locals s.heap m₀) (N : News h₀ env.locals s.heap ((D, listOf ys₀.toArray k₀) :: (C c₀ ++ base))) (hadr : ∀ c, (C c).map (·.1) = adr) (hc₀ : ok c₀)
    (hoff : ∀ p ∈ base, p.1 ≠ D ∧ p.1 ∉ adr) (h0 : items 0 base ys₀) (hgo : ∀ it v, letOwnedTupleGo target it v = pure ())
    (turn : ∀ (i : Nat) t (u : Str → Option Value) ys k rest own c (s₁ : Shared), i < n → items i rest ys → (∀ p ∈ base, p ∈ rest) → ok c → (∀ p ∈ rest ++ own, p.1 ≠ D) → (∀ p ∈ rest ++ own, p.1 ∉ adr) →
      Fr h₀ env.locals s₁.heap (fun z => if temps.contains z then u z else m₀ z) → News h₀ env.locals s₁.heap ((D, listOf ys.toArray k) :: (C c ++ (rest ++ own))) →
      wpAny (model prog w) A (assign target env (.int (i : Int) t)) (fun _ s₃ => wpAny (model prog w) A (execs body env) (TurnC h₀ env.locals C ok adr temps m₀ D rest own (items (i + 1)) s₁) E s₃) E s₁)
    (done : ∀ ys k rest c (u : Str → Option Value) h tk, items n rest ys → (∀ p ∈ base, p ∈ rest) → ok c → (∀ p ∈ rest, p.1 ≠ D) → Fr h₀ env.locals h (fun z => if temps.contains z then u z else m₀ z) → News h₀ env.locals h ((D, listOf ys.toArray k) :: (C c ++ rest)) → Q .next { s with heap := h, toks := tk }) :
    wpAny (model prog w) A (pyIter (.ref r)) (fun it s₂ => LoopAtT prog w A h₀ env target body Q E it s₂) E s := by
  have hsmall : Builtin.Range.small 0 (n : Int) 1 = true := small_one (by omega) (by omega) (by omega) (by omega)
  refine wpAny_pyIter_range hr hsmall ?_
  have hsz : Builtin.Range.rangeSize 0 (n : Int) 1 = (n : Int) := by have := rangeSize_nat 0 (n : Int); simpa using this
  have W : Walks prog w A s.heap.objs.size [s.heap.objs.size] [s.heap.objs.size] n (fun i v => i < n ∧ ∃ t, v = .int (0 + i * 1) t)
      (fun i h => IsRangeIter h s.heap.objs.size (0 + (i : Nat) * 1) ((n : Int) - (i : Nat)) 1) := (Walks.range hh _ 0 1 n).bound
  have keep : ∀ {m₁ : Str → Option Value}, (∀ z, temps.contains z = false → m₁ z = m₀ z) → m₁ = fun z => if temps.contains z then m₁ z else m₀ z := fun {m₁} hm => by
    funext z
    by_cases h2 : temps.contains z = true
    · rw [if_pos h2]
    · rw [if_neg h2]; exact hm z (by simpa using h2)
  refine ⟨s.heap.objs.size, [s.heap.objs.size], [s.heap.objs.size], n, _, _, m₀, _,
    (fun i m nx => ∃ ys k rest c, nx = (D, listOf ys.toArray k) :: (C c ++ rest) ∧ items i rest ys ∧ (∀ p ∈ base, p ∈ rest) ∧ ok c ∧ (∀ p ∈ rest, p.1 ≠ D ∧ p.1 ∉ adr) ∧ ∀ z, temps.contains z = false → m z = m₀ z),
    rfl, W, ?_, ?_, ?_, (by show IsRangeIter _ _ _ _ _; rw [hsz]; simpa using Heap.get?_push_size _ rfl), F.push _, (fun p hp => ⟨Heap.get?_push_of_some _ (N p hp).1, (N p hp).2⟩), (fun i s' v Q' _ hq => by rw [hgo]; exact wpAny_pure hq),
    ⟨ys₀, k₀, base, c₀, rfl, h0, fun _ h => h, hc₀, hoff, fun _ _ => rfl⟩, ?_, ?_⟩
  · intro hm
    exact absurd F.ns.lt (by rw [List.mem_singleton.mp hm]; exact Nat.lt_irrefl _)
  · intro b hb
    rw [List.mem_singleton.mp hb]
    exact next_is_new F
  · intro p hp hI
    exact absurd (Heap.lt_size (N p hp).1) ((List.mem_singleton.mp hI) ▸ Nat.lt_irrefl _)
  · rintro i v m₁ nx s₁ own hi ⟨_, t, rfl⟩ ⟨ys, k, rest, c, rfl, hit, hb, hok, hD, hm⟩ hoff' hown _ hmem hst F₁ N₁
    obtain ⟨oI, hoI⟩ : ∃ o, s₁.heap.get? s.heap.objs.size = some o := ⟨_, hst⟩
    have hI0 : (s.heap.objs.size, oI) ∈ own := hmem _ (.head _) (next_is_new F) _ hoI
    have hown' : ∀ p ∈ own, p.1 = s.heap.objs.size := fun p hp => List.mem_singleton.mp (hown p hp)
    have nI : ∀ q ∈ (D, listOf ys.toArray k) :: (C c ++ rest), q.1 ≠ s.heap.objs.size := fun q hq e => hoff' q hq (List.mem_singleton.mpr e)
    have hcell : ∀ b ∈ adr, b ≠ s.heap.objs.size := fun b hb' => by
      rw [← hadr c] at hb'
      obtain ⟨q, hq, rfl⟩ := List.mem_map.mp hb'
      exact nI q (.tail _ (List.mem_append_left _ hq))
    have e : (Value.int (0 + (i : Int) * 1) t) = .int (i : Int) t := by simp
    rw [e]
    rw [keep hm] at F₁
    have hro : ∀ p ∈ rest ++ own, p.1 ≠ D ∧ p.1 ∉ adr := fun p hp => (List.mem_append.mp hp).elim (hD p) fun h => ⟨fun e => nI _ (.head _) (e.symm.trans (hown' p h)), fun hm => hcell _ hm (hown' p h)⟩
    refine wpAny_mono (turn i t m₁ ys k rest own c s₁ hi hit hb hok (fun p hp => (hro p hp).1) (fun p hp => (hro p hp).2) F₁ (fun p hp => N₁ p ?_)) (fun _ s₃ h₃ => wpAny_mono h₃ (fun f s₄ h₄ => ?_) fun _ _ e => e) fun _ _ e => e
    · rcases List.mem_cons.mp hp with rfl | hp
      · exact List.mem_append_right _ (.head _)
      · rcases List.mem_append.mp hp with hp | hp
        · exact List.mem_append_right _ (.tail _ (List.mem_append_left _ hp))
        · rcases List.mem_append.mp hp with hp | hp
          · exact List.mem_append_right _ (.tail _ (List.mem_append_right _ hp))
          · exact List.mem_append_left _ hp
    · obtain ⟨rfl, h', tk', m', led, add, ys', k', c', rfl, hok', F', N', hs, ho, hi', hm'⟩ := h₄
      refine ⟨rfl, h', tk', m', (D, listOf ys'.toArray k') :: (C c' ++ (add ++ rest)), rfl, F', fun p hp => N' p (hs p ?_), fun p hp hI => ?_, ys', k', add ++ rest, c', rfl, hi', fun p hp => List.mem_append_right _ (hb p hp), hok', fun p hp => ?_, hm'⟩
      · rcases List.mem_append.mp hp with hp | hp
        · exact .tail _ (List.mem_append_right _ (List.mem_append_right _ (List.mem_append_right _ hp)))
        · rcases List.mem_cons.mp hp with rfl | hp
          · exact .head _
          · rcases List.mem_append.mp hp with hp | hp
            · exact .tail _ (List.mem_append_left _ hp)
            · rcases List.mem_append.mp hp with hp | hp
              · exact .tail _ (List.mem_append_right _ (List.mem_append_left _ hp))
              · exact .tail _ (List.mem_append_right _ (List.mem_append_right _ (List.mem_append_left _ hp)))
      · have hI' := List.mem_singleton.mp hI
        rcases List.mem_cons.mp hp with rfl | hp
        · exact nI (D, _) (.head _) hI'
        · rcases List.mem_append.mp hp with hp | hp
          · exact hcell _ (by rw [← hadr c']; exact List.mem_map_of_mem hp) hI'
          · rcases List.mem_append.mp hp with hp | hp
            · exact (ho p hp).2.2 _ (List.mem_append_right _ hI0) hI'.symm
            · exact nI p (.tail _ (List.mem_append_right _ hp)) hI'
      · rcases List.mem_append.mp hp with hp | hp
        · exact ⟨(ho p hp).1, (ho p hp).2.1⟩
        · exact hD p hp
  · rintro h' tk m' nx F' N' _ ⟨ys, k, rest, c, rfl, hit, hb, hok, hD, hm⟩
    rw [keep hm] at F'
    exact done ys k rest c _ h' tk hit hb hok (fun p hp => (hD p hp).1) F' N'
end
local macro_rules | `(tactic| walk_at "pyIter ref") => `(tactic| (k_here; (with_reducible show wpAny _ _ (pyIter (Value.ref _)) (fun it s₂ => LoopAtT _ _ _ _ _ _ _ _ _ it s₂) _ _); refine Stop.out ?_))
local macro_rules | `(tactic| walk_at "exec For Name Call cons nil") => `(tactic| (k_here; (rename Fr _ _ _ _ => lF'); k_dflt (refine For_invTF lF' ?_ (by intro _; rfl))))

set_option maxRecDepth 100000 in
set_option maxHeartbeats 4000000 in
theorem doubled_spec (w : World) (l : Addr) (v : List Int) (n : Nat) (news : Led) (hV : IntsIn news (.ref l) v) (hn : v.length = n) (hn1 : n < 1048576) :
    SpecAt w 145 2 24 news [.ref l] (fun r tl => ∃ a ys k, r = .ref a ∧ tl = [(a, listOf ys.toArray k)] ∧ IntsAre ys (doubledRow v 1 1 2)) := by
  unfold SpecAt
  intro p loose mean mg mb dp un gd cn cs a ccd cl outer A₀ base h₀ L m s Q E B F X N T hk hd hu hret
  refine wpAny_call ?_
  k_dflt ktr_enter
  k_steps
  rename News h₀ L _ _ => N9
  exact hret _ [_] _ _ (by assumption) N9 (by assumption) ⟨_, _, _, rfl, rfl, by assumption⟩

theorem off_K : True := by w_top off; trivial
/-- a ledger apart from the list at D and from some cells -/
noncomputable def Off (D : Addr) (adr : List Addr) (l : Led) : Prop := ∀ p ∈ l, p.1 ≠ D ∧ p.1 ∉ adr
theorem Off.cons {D a : Addr} {o : Obj} {adr : List Addr} {l : Led} (h1 : @Ne Nat a D) (h2 : ∀ b ∈ adr, @Ne Nat a b) (h : Off D adr l) : Off D adr ((a, o) :: l) := fun p hp => by
  rcases List.mem_cons.mp hp with rfl | hp
  · exact ⟨h1, fun hm => h2 _ hm rfl⟩
  · exact h p hp
theorem Off.below {D L : Addr} {adr : List Addr} {l : Led} (h : ∀ p ∈ l, p.1 < L) (h1 : @LT.lt Nat _ L D) (h2 : ∀ b ∈ adr, @LT.lt Nat _ L b) : Off D adr l := fun p hp =>
  ⟨Nat.ne_of_lt (Nat.lt_trans (h p hp) h1), fun hm => Nat.lt_irrefl _ (Nat.lt_trans (h p hp) (h2 _ hm))⟩
theorem all_one {P : Addr → Prop} {c : Addr} (h : P c) : ∀ b ∈ [c], P b := fun b hb => by rw [List.mem_singleton.mp hb]; exact h
theorem all_two {P : Addr → Prop} {c d : Addr} (h : P c) (k : P d) : ∀ b ∈ [c, d], P b := fun b hb => by
  rcases List.mem_cons.mp hb with rfl | hb
  · exact h
  · rw [List.mem_singleton.mp hb]; exact k

/-- the rows that a loop has built: they lie ahead of the base, apart from it -/
noncomputable def Grown (base : Led) (f : Nat → List Int) (i : Nat) (rest : Led) (ys : List Value) : Prop :=
  ∃ add, rest = add ++ base ∧ DatAll add ys (((List.range i).map f).map intsD) ∧ ∀ q ∈ base, ∀ p ∈ add, @Ne Nat q.1 p.1
theorem Grown.nil {base : Led} {f : Nat → List Int} : Grown base f 0 base [] := ⟨[], rfl, .nil, fun _ _ _ h => nomatch h⟩
theorem Grown.step {base rest : Led} {f : Nat → List Int} {i : Nat} {ys ys' : List Value} {a' : Addr} {n : Nat} (h : Grown base f i rest ys) (hI : IntsAre ys' (f i)) (ho : ∀ p ∈ rest, @Ne Nat p.1 a') :
    Grown base f (i + 1) ([(a', listOf ys'.toArray n)] ++ rest) (ys ++ [.ref a']) := by
  obtain ⟨add, rfl, hd, hn⟩ := h
  refine ⟨(a', _) :: add, rfl, ?_, fun q hq p hp => ?_⟩
  · rw [List.range_succ, List.map_append, List.map_append]
    exact (DatAll.mono (fun p hp => .tail _ hp) hd).append (.one (.list (.head _) (intsAre_dat hI)))
  · rcases List.mem_cons.mp hp with rfl | hp
    · exact ho q (List.mem_append_right _ hq)
    · exact hn q hq p hp
theorem Grown.len {base rest : Led} {f : Nat → List Int} {i : Nat} {ys : List Value} (h : Grown base f i rest ys) : ys.length = i := by
  obtain ⟨add, rfl, hd, hn⟩ := h
  simpa using hd.length
/-- the plane over what was built: its own objects, the list of rows, the rows -/
theorem Grown.plane {w : World} {h₀ h' : Heap} {L a D : Addr} {W H : Int} {base rest news tl' Cs : Led} {f : Nat → List Int} {n k : Nat} {ys : List Value} (h : Grown base f n rest ys) (hP : PlaneOb w tl' a W H D)
    (N : News h₀ L h' (tl' ++ ((D, listOf ys.toArray k) :: (Cs ++ rest)))) (hb : ∀ p ∈ news, p ∈ base) (hl : ∀ q ∈ (D, listOf ys.toArray k) :: (Cs ++ rest), ∀ x ∈ tl', @Ne Nat q.1 x.1) (hD : ∀ p ∈ rest, p.1 ≠ D) :
    ∃ tl, News h₀ L h' (tl ++ news) ∧ (∀ q ∈ news, ∀ x ∈ tl, @Ne Nat q.1 x.1) ∧ PlaneIn w tl a W H ((List.range n).map f) := by
  obtain ⟨add, rfl, hd, hn⟩ := h
  refine ⟨tl' ++ (D, listOf ys.toArray k) :: add, fun p hp => N p ?_, fun q hq x hx => ?_, hP.with (RowsIn.of (news := (D, listOf ys.toArray k) :: add) (.head _) (hd.mono fun p hp => .tail _ hp)) (fun p hp => List.mem_append_left _ hp) fun p hp => List.mem_append_right _ hp⟩
  · rcases List.mem_append.mp hp with hp | hp
    · rcases List.mem_append.mp hp with hp | hp
      · exact List.mem_append_left _ hp
      · rcases List.mem_cons.mp hp with rfl | hp
        · exact List.mem_append_right _ (.head _)
        · exact List.mem_append_right _ (.tail _ (List.mem_append_right _ (List.mem_append_left _ hp)))
    · exact List.mem_append_right _ (.tail _ (List.mem_append_right _ (List.mem_append_right _ (hb _ hp))))
  · rcases List.mem_append.mp hx with hx | hx
    · exact hl q (.tail _ (List.mem_append_right _ (List.mem_append_right _ (hb _ hq)))) x hx
    · rcases List.mem_cons.mp hx with rfl | hx
      · exact hD q (List.mem_append_right _ (hb _ hq))
      · exact hn q (hb _ hq) x hx
theorem ranges {g : Int → Int} {n m : Nat} (h : m = n) : (rangeKs 0 m).map g = (List.range n).map fun (i : Nat) => g i := by
  subst h; simp [rangeKs, Function.comp_def]

theorem off1_mem {D : Addr} : ∀ {l : Led}, LCg.Off1 D l → ∀ p ∈ l, @Ne Nat p.1 D
  | [], _, _, h => nomatch h
  | _ :: _, x, p, h => by
    rcases List.mem_cons.mp h with rfl | h
    · exact x.1
    · exact off1_mem x.2 p h
/-- a turn that has built one row and appended it -/
theorem TurnC.one {σ : Type} {h₀ : Heap} {L : Addr} {C : σ → Led} {ok : σ → Prop} {adr : List Addr} {temps : List Str} {m₀ : Str → Option Value} {D a' : Addr} {base rest own : Led} {f : Nat → List Int} {i : Nat} {s₁ : Shared} {h' : Heap} {tk : Nat} {m' : Str → Option Value} {c : σ} {ys ys' : List Value} {k : Nat}
    (F : Fr h₀ L h' m') (N : News h₀ L h' ((a', LCg.lst ys') :: (D, listOf (ys ++ [Value.ref a']).toArray k) :: (C c ++ (rest ++ own)))) (hc : ok c) (h1 : @Ne Nat D a') (h2 : ∀ b ∈ adr, @Ne Nat b a') (h3 : LCg.Off1 a' (rest ++ own)) (hit : Grown base f i rest ys) (hI : IntsAre ys' (f i)) (hm : ∀ z, temps.contains z = false → m' z = m₀ z) :
    TurnC h₀ L C ok adr temps m₀ D rest own (Grown base f (i + 1)) s₁ .next { s₁ with heap := h', toks := tk } :=
  TurnC.intro (led := (a', LCg.lst ys') :: (D, listOf (ys ++ [Value.ref a']).toArray k) :: (C c ++ (rest ++ own))) c [(a', LCg.lst ys')] _ _ F N hc (fun p hp => by
    rcases List.mem_cons.mp hp with rfl | hp
    · exact .tail _ (.head _)
    · rcases List.mem_append.mp hp with hp | hp
      · exact .tail _ (.tail _ (List.mem_append_left _ hp))
      · rcases List.mem_cons.mp hp with rfl | hp
        · exact .head _
        · exact .tail _ (.tail _ (List.mem_append_right _ hp))) (fun q hq => by
    rw [List.mem_singleton.mp hq]
    exact ⟨Ne.symm h1, fun hm => h2 _ hm rfl, fun p hp => off1_mem h3 p hp⟩) (hit.step (n := ys'.length) hI fun p hp => off1_mem h3 p (List.mem_append_left _ hp)) hm

noncomputable def cutRow (R : List (List Int)) (W H : Nat) (x y : Int) (wd : Nat) (j : Nat) : List Int := (List.range wd).map fun (i : Nat) => atR R W H (x + (i : Int)) (y + (j : Int))
noncomputable def cutR (R : List (List Int)) (W H : Nat) (x y : Int) (wd ht : Nat) : List (List Int) := (List.range ht).map (cutRow R W H x y wd)

local macro_rules | `(tactic| walk_at "eval Name") => `(tactic| (k_here; (with_reducible show wpAny _ _ (eval (Expr.Name _ _) (compEnvC _ _ _ _)) _ _ _); k_dflt (refine' kcf_cell ?k1 ?k2 ?k3 ?k4 ?_ ?k5 ?k6 ?k7; (case k5 => exact rfl); (case k6 => exact rfl); (case k7 => decide); (case k1 => k_asm); (case k2 => exact rfl); (case k3 => k_mem); (case k4 => assumption); k_whole)))
set_option maxRecDepth 100000 in
set_option maxHeartbeats 4000000 in
theorem cut_spec (w : World) (pl : Addr) (R : List (List Int)) (W H : Nat) (x y : Int) (wd ht : Nat) (t1 t2 t3 t4 : Tok) (news : Led) (hP : PlaneIn w news pl W H R) (hr : Rect R W H) (hw : wd < 1048576) (hh : ht < 1048576) :
    SpecAt w 100 4 40 news [.ref pl, .int x t1, .int y t2, .int wd t3, .int ht t4] (fun r tl => ∃ a, r = .ref a ∧ PlaneIn w tl a wd ht (cutR R W H x y wd ht)) := by
  unfold SpecAt
  intro p loose mean mg mb dp un gd cn cs a ccd cl outer A₀ base h₀ L m s Q E B F X N T hk hd hu hret
  refine wpAny_call ?_
  k_dflt ktr_enter
  rename_i g1 L1 h1 tk1 FG1 F1 B1 X1 T1 l1 o1 o2 o3 o4 d1 d2 d3 d4 N1
  replace d1 : o1.data = .cell none := d1
  replace d2 : o2.data = .cell (some (.int y t2)) := d2
  replace d3 : o3.data = .cell (some (.int x t1)) := d3
  replace d4 : o4.data = .cell (some (.ref pl)) := d4
  k_steps
  rename IsRange _ _ _ _ _ _ _ _ => hr9
  rename Fr _ _ _ _ => F9
  rename News _ _ _ _ => N9
  change wpAny _ _ _ _ _ _
  refine grow_loopC (fun o => [(L1 + 1 + 1 + 1 + 1, o)]) (fun o => ∃ v, o.data = .cell v) [L1 + 1 + 1 + 1 + 1] o1 [] (Grown ((L1 + 1 + 1 + 1, o2) :: (L1 + 1 + 1, o3) :: (L1 + 1, o4) :: news) (cutRow R W H x y wd)) rfl hr9 (by omega) F9 N9 (fun _ => rfl) ⟨_, d1⟩
    (Off.cons (by omega) (all_one (by omega)) (Off.cons (by omega) (all_one (by omega)) (Off.cons (by omega) (all_one (by omega)) (Off.below l1 (by omega) (all_one (by omega)))))) Grown.nil (fun _ _ => rfl) ?_ ?_
  · intro i t u ys k rest own c s₁ hi hit hb hc hD hA F2 N2
    obtain ⟨v, hc⟩ := hc
    have m2 := List.mem_append_left own (hb _ (.head _))
    have m3 := List.mem_append_left own (hb _ (.tail _ (.head _)))
    have m4 := List.mem_append_left own (hb _ (.tail _ (.tail _ (.head _))))
    have hP1 : PlaneIn w (rest ++ own) pl W H R := hP.mono fun p hp => List.mem_append_left _ (hb _ (.tail _ (.tail _ (.tail _ hp))))
    have hA1 : ∀ p ∈ rest ++ own, p.1 ≠ L1 + 1 + 1 + 1 + 1 := fun p hp e => hA p hp (by rw [e]; exact .head _)
    simp only [List.cons_append, List.nil_append] at N2
    replace F2 : Fr g1 L1 s₁.heap _ := F2
    replace N2 : News g1 L1 s₁.heap _ := N2
    clear hr9 F9 N9
    obtain ⟨dx1, tw1, th1, q1, q2, q3, lr1, mm1, mm2, hR1⟩ := id hP1
    have hlen : ys.length = i := hit.len
    k_steps
    rename IntsAre _ (List.map _ _) => hI9
    rename News _ _ _ _ => N9
    rename Fr _ _ _ _ => F9
    rename Obj => oc9
    rename oc9.data = _ => hc9
    obtain ⟨ho1, ho2, ho3⟩ := ‹_ ∧ _ ∧ LCg.Off1 _ (rest ++ own)›
    simp only [List.push_toArray] at N9
    exact TurnC.one F9 N9 ⟨_, hc9⟩ ho1 (all_one ho2) ho3 hit (by rw [ranges (n := wd) (by omega)] at hI9; exact hI9) (fun _ _ => rfl)
  · intro ys k rest c u h tk hit hb hc hD F1 N1
    clear hr9 F9 N9
    replace F1 : Fr g1 L1 h _ := F1
    replace N1 : News g1 L1 h _ := N1
    simp only [List.cons_append, List.nil_append] at N1
    k_steps
    rename PlaneOb _ _ _ _ _ _ => hP9
    rename News h₀ L _ _ => N9
    obtain ⟨tl, N8, hl8, hP8⟩ := hit.plane (news := news) (Cs := [(L1 + 1 + 1 + 1 + 1, c)]) hP9 N9 (fun p hp => .tail _ (.tail _ (.tail _ hp))) (by assumption) hD
    exact hret _ tl _ _ (by assumption) N8 hl8 ⟨_, rfl, hP8⟩
theorem off_L : True := by w_top off; trivial
noncomputable def repRow (R : List (List Int)) (W H : Nat) (ma oa md od : Int) (wd : Nat) (j : Nat) : List Int := (List.range wd).map fun (i : Nat) => atR R W H (((i : Int) * oa).fdiv ma) (((j : Int) * od).fdiv md)
noncomputable def repR (R : List (List Int)) (W H : Nat) (ma oa md od : Int) (wd ht : Nat) : List (List Int) := (List.range ht).map (repRow R W H ma oa md od wd)

theorem swap23 {a b c : Addr × Obj} {l : Led} : ∀ q ∈ a :: ([b] ++ (c :: l)), q ∈ a :: c :: b :: l := by
  intro q hq
  simp only [List.cons_append, List.nil_append, List.mem_cons] at hq ⊢
  rcases hq with h | h | h | h <;> simp [h]

set_option maxRecDepth 100000 in
set_option maxHeartbeats 4000000 in
theorem rep_spec (w : World) (pl : Addr) (R : List (List Int)) (W H : Nat) (ma oa md od : Int) (wd ht : Nat) (t1 t2 t3 t4 t5 t6 : Tok) (news : Led) (hP : PlaneIn w news pl W H R) (hr : Rect R W H) (hw : wd < 1048576) (hh : ht < 1048576)
    (ha : 0 < ma) (ha1 : ma < 1048576) (hd0 : 0 < md) (hd1 : md < 1048576) :
    SpecAt w 112 4 40 news [.ref pl, .int ma t1, .int oa t2, .int md t3, .int od t4, .int wd t5, .int ht t6] (fun r tl => ∃ a, r = .ref a ∧ PlaneIn w tl a wd ht (repR R W H ma oa md od wd ht)) := by
  unfold SpecAt
  intro p loose mean mg mb dp un gd cn cs a ccd cl outer A₀ base h₀ L m s Q E B F X N T hk hd hu hret
  refine wpAny_call ?_
  k_dflt ktr_enter
  rename_i g1 L1 h1 tk1 FG1 F1 B1 X1 T1 l1 o1 o2 o3 o4 d1 d2 d3 d4 N1
  replace d1 : o1.data = .cell none := d1
  replace d2 : o2.data = .cell (some (.int oa t2)) := d2
  replace d3 : o3.data = .cell (some (.int ma t1)) := d3
  replace d4 : o4.data = .cell (some (.ref pl)) := d4
  k_steps
  rename IsRange _ _ 0 (ht : Int) _ _ _ _ => hr9
  rename Fr _ _ _ _ => F9
  rename News _ _ _ _ => N9
  rename IntsAre _ _ => hI8
  obtain ⟨ho1, ho2, ho3, ho4, ho5⟩ := ‹_ ∧ _ ∧ _ ∧ _ ∧ LCg.Off1 _ news›
  obtain ⟨hp0, hp1, hp2, hp3, hp4, hp5⟩ := ‹_ ∧ _ ∧ _ ∧ _ ∧ _ ∧ AllLt _ news›
  change wpAny _ _ _ _ _ _
  refine grow_loopC (fun o => [(L1 + 1 + 1 + 1 + 1, o)]) (fun o => ∃ v, o.data = .cell v) [L1 + 1 + 1 + 1 + 1] o1 [Str.ofString "y"] (Grown _ (repRow R W H ma oa md od wd)) rfl hr9 (by omega) F9 (fun q hq => N9 q (swap23 q hq)) (fun _ => rfl) ⟨_, d1⟩
    (Off.cons (Nat.ne_of_lt hp0) (all_one (Ne.symm ho1)) (Off.cons (by omega) (all_one (by omega)) (Off.cons (by omega) (all_one (by omega)) (Off.cons (by omega) (all_one (by omega)) (Off.below l1 (by omega) (all_one (by omega))))))) Grown.nil (fun _ _ => rfl) ?_ ?_
  · intro i t u ys k rest own c s₁ hi hit hb hc hD hA F2 N2
    obtain ⟨v, hc⟩ := hc
    have m1 := List.mem_append_left own (hb _ (.head _))
    have m2 := List.mem_append_left own (hb _ (.tail _ (.head _)))
    have m3 := List.mem_append_left own (hb _ (.tail _ (.tail _ (.head _))))
    have m4 := List.mem_append_left own (hb _ (.tail _ (.tail _ (.tail _ (.head _)))))
    have hP1 : PlaneIn w (rest ++ own) pl W H R := hP.mono fun p hp => List.mem_append_left _ (hb _ (.tail _ (.tail _ (.tail _ (.tail _ hp)))))
    have hA1 : ∀ p ∈ rest ++ own, p.1 ≠ L1 + 1 + 1 + 1 + 1 := fun p hp e => hA p hp (by rw [e]; exact .head _)
    simp only [List.cons_append, List.nil_append] at N2
    replace F2 : Fr g1 L1 s₁.heap _ := F2
    replace N2 : News g1 L1 s₁.heap _ := N2
    clear hr9 F9 N9
    obtain ⟨dx1, tw1, th1, q1, q2, q3, lr1, mm1, mm2, hR1⟩ := id hP1
    have hlen : ys.length = i := hit.len
    k_steps
    rename IntsAre _ (List.map _ (List.map _ _)) => hI9
    rename News _ _ _ _ => N9
    rename Fr _ _ _ _ => F9
    rename Obj => oc9
    rename oc9.data = _ => hc9
    obtain ⟨ho1, ho2, ho3⟩ := ‹_ ∧ _ ∧ LCg.Off1 _ (rest ++ own)›
    simp only [List.push_toArray] at N9
    refine TurnC.one F9 N9 ⟨_, hc9⟩ ho1 (all_one ho2) ho3 hit (by rw [List.map_map, ranges (n := wd) (by omega)] at hI9; exact hI9) (fun z hz => ?_)
    have h3 : z ≠ Str.ofString "y" := by rintro rfl; exact absurd hz (by decide)
    simp only [if_neg h3, hz]; rfl
  · intro ys k rest c u h tk hit hb hc hD F1 N1
    clear hr9 F9 N9
    replace F1 : Fr g1 L1 h _ := F1
    replace N1 : News g1 L1 h _ := N1
    simp only [List.cons_append, List.nil_append] at N1
    k_steps
    rename PlaneOb _ _ _ _ _ _ => hP9
    rename News h₀ L _ _ => N9
    obtain ⟨tl, N8, hl8, hP8⟩ := hit.plane (news := news) (Cs := [(L1 + 1 + 1 + 1 + 1, c)]) hP9 N9 (fun p hp => .tail _ (.tail _ (.tail _ (.tail _ hp)))) (by assumption) hD
    exact hret _ tl _ _ (by assumption) N8 hl8 ⟨_, rfl, hP8⟩
theorem off_M : True := by w_top off; trivial
section
variable {prog : Program} {w : World} {A : Around} {E : Value → Shared → Prop} {s : Shared} {h₀ : Heap} {L : Addr} {m : Str → Option Value} {env : Env}
/-- what an element does with the two names at ints: an int, the heap kept -/
noncomputable def ZElt (prog : Program) (w : World) (A : Around) (env : Env) (elt : PySem.Expr) (x x₂ : Str) (scope : Scope) (cl : List (Str × Addr)) (g : Int → Int → Int) : Prop :=
  ∀ (a b : Int) (t u : Tok) (C : Addr) (s : Shared) (m₂ : Str → Option Value) (E' : Value → Shared → Prop), s.heap.Ns C m₂ → m₂ x = some (.int a t) → m₂ x₂ = some (.int b u) →
    wpAny (model prog w) A (eval elt (compEnvC scope cl C env)) (fun y s₃ => (∃ t, y = .int (g a b) t) ∧ Keeps s s₃) E' s
theorem zc_block {elt iter : PySem.Expr} {x x₂ : Str} {px px₂ tp : Pos} {tk : Nat} {scope : Scope} {cl : List (Str × Addr)} {pos : Pos} {s₂ : Shared} {I : Addr} {fp wr : List Addr} {n : Nat} {Pt : Nat → Array Value → Prop} {St : Nat → Heap → Prop} {Mid : Nat → Addr → Heap → Prop} {news : Led}
    {g : Int → Int → Int} {as bs : List Int} {RR : Value → Addr → Result → Shared → Prop}
    (W : WalksU prog w A I fp wr n Pt St Mid) (hPt : ∀ i vals, Pt i vals → ∃ (a b : Int) (t u : Tok), as[i]? = some a ∧ bs[i]? = some b ∧ vals = #[.int a t, .int b u]) (hn1 : as.length = n) (hn2 : bs.length = n) (hsz : n ≤ sizeLine)
    (hcell : ∀ y ∈ scope.names, y.2 ≠ .cell) (hkind : scope.kind = .function) (hx : scope.names.lookup x = some .local) (hx₂ : scope.names.lookup x₂ = some .local) (hxx : x ≠ x₂) (hh : A.handled = none) (hst : St 0 s₂.heap) (hfp : ∀ b ∈ fp, b < s₂.heap.objs.size)
    (F : Fr h₀ L s₂.heap m) (N : News h₀ L s₂.heap news) (hIL : L ∉ wr) (hI₀ : ∀ b ∈ wr, h₀.get? b = none) (off : ∀ p ∈ news, p.1 ∉ wr)
    (hel : ZElt prog w A env elt x x₂ scope cl g)
    (hRR : ∀ D C h tk m' ys, Fr h₀ L h m → News h₀ L h ((D, LCg.lst ys) :: news) → LCg.Off1 D news → h.Ns C m' → h₀.get? C = none → h₀.get? D = none → C ≠ L → D ≠ L → C ≠ D → (∀ p ∈ news, p.1 ≠ C) → IntsAre ys (List.zipWith g as bs) → RR (.ref D) C (.ok .next) { s₂ with heap := h, toks := tk }) :
    wpAny (model prog w) A (newList []) (fun acc s₃ => wpAny (model prog w) A (newFunctionEnv scope env.globals cl [] env.qual none .none (some env)) (fun cenv s₄ =>
      codeAny (model prog w) A (.compStart (.ListComp elt [⟨.Tuple [.Name x px, .Name x₂ px₂] tk tp, iter, [], 0⟩] scope pos) 0 (.ref I) acc { cenv with scope := relabel scope env }) (RR acc cenv.locals) s₄) E s₃) E s₂ := by
  refine wpAny_newObj_type (wpAny_newFunctionEnv hcell (by intro y hy; simp at hy) (fun h₁ hns₁ hsb₁ => ?_) hkind)
  dsimp only at hns₁ hsb₁ ⊢
  generalize hH2 : s₂.heap.push { cls := .type "list", dict := none, data := .seq ([] : List Value).toArray } = H2 at hns₁ hsb₁ ⊢
  have hC : H2.objs.size = s₂.heap.objs.size + 1 := by rw [← hH2, Heap.size_push]
  have hDC : s₂.heap.objs.size ≠ H2.objs.size := by rw [hC]; exact Nat.ne_of_lt (Nat.lt_succ_self _)
  have below : ∀ b, b < s₂.heap.objs.size → b ≠ H2.objs.size ∧ b ≠ s₂.heap.objs.size := fun b hb => ⟨by rw [hC]; exact Nat.ne_of_lt (Nat.lt_succ_of_lt hb), Nat.ne_of_lt hb⟩
  have hDf : s₂.heap.objs.size ∉ fp := fun hm => Nat.lt_irrefl _ (hfp _ hm)
  have hCf : H2.objs.size ∉ fp := fun hm => (below _ (hfp _ hm)).1 rfl
  have hDw : s₂.heap.objs.size ∉ wr := fun hm => hDf (W.sub _ hm)
  have hCw : H2.objs.size ∉ wr := fun hm => hCf (W.sub _ hm)
  have old : ∀ b o, s₂.heap.get? b = some o → h₁.get? b = some o := fun b o e => hsb₁.extBut b o (below b (Heap.lt_size e)).1 (Heap.get?_push_of_some _ (hH2 ▸ Heap.get?_push_of_some _ e))
  have hacc : h₁.get? s₂.heap.objs.size = some (LCg.lst []) := hsb₁.extBut _ _ hDC (Heap.get?_push_of_some _ (hH2 ▸ Heap.get?_push_size _ rfl))
  have hst₁ : St 0 h₁ := W.frame _ _ _ hst fun b _ o e => old b o e
  have fresh₀ : ∀ a, s₂.heap.objs.size ≤ a → h₀.get? a = none := fun a ha => by
    cases e : h₀.get? a with
    | none => rfl
    | some o' => exact absurd (Heap.lt_size (F.keep a o' e)) (Nat.not_lt.mpr ha)
  have hD₀ : h₀.get? s₂.heap.objs.size = none := fresh₀ _ (Nat.le_refl _)
  have hC₀ : h₀.get? H2.objs.size = none := fresh₀ _ (by rw [hC]; exact Nat.le_succ _)
  have hLlt : L < s₂.heap.objs.size := F.ns.lt
  have hDL : s₂.heap.objs.size ≠ L := Ne.symm (below L hLlt).2
  have hCL : H2.objs.size ≠ L := Ne.symm (below L hLlt).1
  have offD : ∀ p ∈ news, p.1 ≠ s₂.heap.objs.size := fun p hp => (below _ (Heap.lt_size (N p hp).1)).2
  have offC : ∀ p ∈ news, p.1 ≠ H2.objs.size := fun p hp => (below _ (Heap.lt_size (N p hp).1)).1
  have fr_wr : ∀ {h h' : Heap}, Fr h₀ L h m → (∀ b o, b ∉ wr → h.get? b = some o → h'.get? b = some o) → Fr h₀ L h' m := fun {h h'} F hk =>
    ⟨F.ns.at' fun o e => hk L o hIL e, fun b o e => hk b o (fun hm => by rw [hI₀ b hm] at e; cases e) (F.keep b o e), F.above⟩
  have off1 : ∀ {l : Led}, (∀ p ∈ l, p.1 ≠ s₂.heap.objs.size) → LCg.Off1 s₂.heap.objs.size l := fun {l} h => by
    induction l with
    | nil => trivial
    | cons p r ih => exact ⟨h p (.head _), ih fun q hq => h q (.tail _ hq)⟩
  have loop : ∀ s₃ : Shared, s₃ = { s₂ with heap := h₁, toks := s₂.toks + ([] : List (Str × Value)).length } →
      codeAny (model prog w) A (.compLoop (.ListComp elt [⟨.Tuple [.Name x px, .Name x₂ px₂] tk tp, iter, [], 0⟩] scope pos) 0 (.ref I) (.ref s₂.heap.objs.size) (compEnvC scope cl H2.objs.size env))
        (RR (.ref s₂.heap.objs.size) H2.objs.size) s₃ := by
    rintro s₃ rfl
    refine LCp.codeAny_compLoop_pair
      (fun k s' => ∃ h' tk i ys m', s' = { s₂ with heap := h', toks := tk } ∧ i ≤ n ∧ k = n + 1 - i ∧ ys.length = i ∧ IntsAre ys ((List.zipWith g as bs).take i) ∧ St i h' ∧ Fr h₀ L h' m ∧ h'.Ns H2.objs.size m' ∧ News h₀ L h' ((s₂.heap.objs.size, LCg.lst ys) :: news)) ?_ (n + 1)
      ⟨h₁, _, 0, [], _, rfl, Nat.zero_le _, rfl, rfl, by rw [List.take_zero]; exact .nil, hst₁, F.keeps old, hns₁, fun p hp => ?_⟩
    · rintro k s' ⟨h', tk, i, ys, m', rfl, hi, rfl, hyl, hys, hst', F', hn', N'⟩
      have hDC' : ∀ p ∈ (s₂.heap.objs.size, LCg.lst ys) :: news, p.1 ∉ wr := fun p hp => by
        rcases List.mem_cons.mp hp with rfl | hp
        · exact hDw
        · exact off p hp
      have hDC2 : ∀ p ∈ (s₂.heap.objs.size, LCg.lst ys) :: news, p.1 ≠ H2.objs.size := fun p hp => by
        rcases List.mem_cons.mp hp with rfl | hp
        · exact hDC
        · exact offC p hp
      by_cases hlt : i < n
      · refine W.item i _ _ _ hlt hst' fun T vals h₂ tk₂ hPv hT hMid hk₂ => ?_
        obtain ⟨a, b, t, u, ha, hb, rfl⟩ := hPt i vals hPv
        refine W.go _ _ _ i T _ _ _ hMid fun h₄ hst₄ hk₄ => ?_
        have hT4 : h₄.IsTuple T #[.int a t, .int b u] := by
          obtain ⟨o, ho, hr⟩ := hT
          exact ⟨o, hk₄ T o (W.apart i T _ hMid) ho, hr⟩
        have k24 : ∀ c o, c ∉ wr → h'.get? c = some o → h₄.get? c = some o := fun c o hc e => hk₄ c o hc (hk₂ c o hc e)
        refine assign_Tuple_tuple hh hT4 rfl rfl fun h₅ he => ?_
        have he' : ∀ c o, h₄.get? c = some o → h₅.get? c = some o := fun c o e => he c o (Nat.ne_of_lt (Heap.lt_size e)) e
        refine assignInOrder_cons (wpAny_assign_Name (wpAny_storeName_local (lookup_relabel_local hx) ((hn'.at' fun o e => k24 _ o hCw e).at' fun o e => he' _ o e) (fun h₆ hn₆ hs₆ => ?_) (by simp [compEnvC, relabel, hkind])))
        refine assignInOrder_cons (wpAny_assign_Name (wpAny_storeName_local (lookup_relabel_local hx₂) hn₆ (fun h₃ hn₃ hs₃ => ?_) (by simp [compEnvC, relabel, hkind])))
        refine assignInOrder_nil ?_
        have old3 : ∀ c o, c ≠ H2.objs.size → h₄.get? c = some o → h₃.get? c = some o := fun c o hc e => hs₃.extBut c o hc (hs₆.extBut c o hc (he' c o e))
        refine wpAny_mono (hel a b t u H2.objs.size { s₂ with heap := h₃, toks := _ } _ _ hn₃ (by simp [hxx]) (by simp)) (fun y s₄ h₄ => ?_) fun _ _ e => e
        obtain ⟨⟨t', rfl⟩, h₇, tk₇, rfl, hk₇⟩ := h₄
        have up : ∀ c o, c ∉ wr → c ≠ H2.objs.size → h'.get? c = some o → h₇.get? c = some o := fun c o hc hc2 e => hk₇ c o (old3 c o hc2 (k24 c o hc e))
        have N7 : News h₀ L h₇ ((s₂.heap.objs.size, LCg.lst ys) :: news) := fun p hp => ⟨up _ _ (hDC' p hp) (hDC2 p hp) (N' p hp).1, (N' p hp).2⟩
        have F7 : Fr h₀ L h₇ m := ((((fr_wr F' k24).keeps he').change hs₆ hCL hC₀).change hs₃ hCL hC₀).keeps hk₇
        have hst7 : St (i + 1) h₇ := W.frame _ _ _ (W.frame _ _ _ hst₄ fun c hc o e => old3 c o (fun q => hCf (q ▸ hc)) e) fun c _ o e => hk₇ c o e
        refine append_at (hsz := by show ys.toArray.size ≤ sizeLine; rw [List.size_toArray, hyl]; exact Nat.le_trans hi hsz) (N7 _ (.head _)).1 fun h₈ hs₈ hD₈ => ?_
        refine ⟨n + 1 - (i + 1), by omega, h₈, tk₇, i + 1, ys ++ [.int (g a b) t'], _, rfl, hlt, rfl, by rw [List.length_append, List.length_singleton, hyl], ?_, W.frame _ _ _ hst7 fun c hc o e => hs₈.extBut c o (fun q => hDf (q ▸ hc)) e, F7.change hs₈ hDL hD₀,
          (hn₃.at' fun o e => hk₇ _ o e).sameBut hs₈ (Ne.symm hDC), fun p hp => ?_⟩
        · have e : (List.zipWith g as bs)[i]? = some (g a b) := by rw [List.getElem?_zipWith, ha, hb]
          rw [List.take_add_one, e]
          exact IntsAre.append hys (.cons _ _ .nil)
        · rcases List.mem_cons.mp hp with rfl | hp
          · exact ⟨hD₈.trans (congrArg some (LCg.lst_snoc ys _)), hDL, hD₀⟩
          · exact ⟨hs₈.extBut _ _ (offD p hp) (N7 p (.tail _ hp)).1, (N' p (.tail _ hp)).2⟩
      · obtain rfl : i = n := Nat.le_antisymm hi (Nat.not_lt.mp hlt)
        refine W.done _ _ _ hst' fun h₂ tk₂ hk₂ => ?_
        refine hRR _ _ h₂ tk₂ _ ys (fr_wr F' hk₂) (fun p hp => ⟨hk₂ _ _ (hDC' p hp) (N' p hp).1, (N' p hp).2⟩) (off1 offD) (hn'.at' fun o e => hk₂ _ o hCw e) hC₀ hD₀ hCL hDL (Ne.symm hDC) offC ?_
        rwa [List.take_of_length_le (by simp only [List.length_zipWith]; omega)] at hys
    · rcases List.mem_cons.mp hp with rfl | hp
      · exact ⟨hacc, hDL, hD₀⟩
      · exact ⟨old _ _ (N p hp).1, (N p hp).2⟩
  exact codeAny_compStart_list (loop _ rfl) (W.self 0 _ _ _ hst₁ (loop _ rfl))
/-- the two lists are zipped; the turns are told -/
noncomputable def ZSrc (prog : Program) (w : World) (A : Around) (h₀ : Heap) (m : Str → Option Value) (env : Env) (elt : PySem.Expr) (x x₂ : Str) (scope : Scope) (cl : List (Str × Addr)) (y : Str) (Q : Flow → Shared → Prop) (xv : Value) (s₁ : Shared) : Prop :=
  ∃ (I : Addr) (fp wr : List Addr) (n : Nat) (Pt : Nat → Array Value → Prop) (St : Nat → Heap → Prop) (Mid : Nat → Addr → Heap → Prop) (news : Led) (g : Int → Int → Int) (as bs : List Int),
    xv = .ref I ∧ WalksU prog w A I fp wr n Pt St Mid ∧ (∀ i vals, Pt i vals → ∃ (a b : Int) (t u : Tok), as[i]? = some a ∧ bs[i]? = some b ∧ vals = #[.int a t, .int b u]) ∧ as.length = n ∧ bs.length = n ∧ n ≤ sizeLine ∧ A.handled = none ∧ St 0 s₁.heap ∧
    (∀ b ∈ fp, b < s₁.heap.objs.size) ∧ Fr h₀ env.locals s₁.heap m ∧ News h₀ env.locals s₁.heap news ∧ env.locals ∉ wr ∧ (∀ b ∈ wr, h₀.get? b = none) ∧ (∀ p ∈ news, p.1 ∉ wr) ∧ ZElt prog w A env elt x x₂ scope cl g ∧
    (∀ D h tk ys, Fr h₀ env.locals h (fun z => if z = y then some (.ref D) else m z) → News h₀ env.locals h ((D, LCg.lst ys) :: news) → LCg.Off1 D news → IntsAre ys (List.zipWith g as bs) → Q .next { s₁ with heap := h, toks := tk })

theorem zc_Assign {elt iter : PySem.Expr} {x x₂ y : Str} {px px₂ tp py : Pos} {tk : Nat} {scope : Scope} {cl : List (Str × Addr)} {pos spos : Pos} {Q : Flow → Shared → Prop}
    (_F : Fr h₀ env.locals s.heap m)
    (hsw : swapsWith (.ListComp elt [⟨.Tuple [.Name x px, .Name x₂ px₂] tk tp, iter, [], 0⟩] scope pos) (some (.Name y py)) spos.line env = pure true)
    (hclos : closureFor scope env = pure cl) (hcell : ∀ z ∈ scope.names, z.2 ≠ .cell) (hkind : scope.kind = .function)
    (hnames : ∀ z ∈ scope.names, z.2 = .local → scope.names.lookup z.1 = some .local) (hx : scope.names.lookup x = some .local) (hx₂ : scope.names.lookup x₂ = some .local) (hxx : x ≠ x₂)
    (hy : env.kindOf y = some .local) (hp : (env.scope.kind == .class || (env.scope.kind == .module && env.locals != env.globals)) = false)
    (h : wpAny (model prog w) A (eval iter env) (ZSrc prog w A h₀ m env elt x x₂ scope cl y Q) E s)
    (hs : ∀ x, foldedSetIterable iter env x = pure x := by intro _; rfl) :
    wpAny (model prog w) A (exec (.Assign [.Name y py] (.ListComp elt [⟨.Tuple [.Name x px, .Name x₂ px₂] tk tp, iter, [], 0⟩] scope pos) spos) env) Q E s := by
  rw [exec_Assign_Name_used _ _ _ _ hsw]
  refine wpAny_bind (wpAny_standAt (wpAny_bind ?_))
  show wpAny _ A (do let _ ← comprehension (.ListComp elt [⟨.Tuple [.Name x px, .Name x₂ px₂] tk tp, iter, [], 0⟩] scope pos) scope env _ (newList []) false (eval iter env) (some (assign (.Name y py) env))) _ _ s
  refine wpAny_bind (wpAny_mono (wpAny_comprehension_free (use := some (assign (.Name y py) env)) (Q := fun _ s' => Q .next s') rfl hs hclos hkind hnames
    (wpAny_mono h (fun xv s₁ h₁ => ?_) fun _ _ e => e)) (fun _ s' hq => wpAny_pure (wpAny_pure hq)) fun _ _ e => e)
  obtain ⟨I, fp, wr, n, Pt, St, Mid, news, g, as, bs, rfl, W, hPt, hn1, hn2, hsz, hh, hst, hfp, F, N, hIL, hI₀, off, hel, fin⟩ := h₁
  refine W.self 0 _ _ _ hst (zc_block W hPt hn1 hn2 hsz hcell hkind hx hx₂ hxx hh hst hfp F N hIL hI₀ off hel ?_)
  intro D C h' tk m' ys F' N' o1 hn hC₀ hD₀ hCL hDL hCD offC hys
  show wpAny _ A (assign (.Name y py) env (.ref D)) _ _ _
  refine wpAny_assign_Name (wpAny_storeName_local hy F'.ns (fun h₂ hn₂ hs₂ => ?_) hp)
  have hL₀ : h₀.get? env.locals = none := Heap.get?_none_of_le F'.above
  have F₂ : Fr h₀ env.locals h₂ (fun z => if z = y then some (.ref D) else m z) := ⟨hn₂, fun b o e => hs₂.extBut b o (fun q => by rw [q, hL₀] at e; cases e) (F'.keep b o e), F'.above⟩
  refine ⟨m', hn.sameBut hs₂ hCL, fun h'' hs'' => fin D h'' _ ys (F₂.change hs'' hCL hC₀) (fun p hp => ?_) o1 hys⟩
  have z : h₂.get? p.1 = some p.2 := hs₂.extBut _ _ (N' p hp).2.1 (N' p hp).1
  refine ⟨hs''.extBut _ _ ?_ z, (N' p hp).2⟩
  rcases List.mem_cons.mp hp with rfl | hp
  · exact Ne.symm hCD
  · exact offC p hp

theorem zc_call {elt : PySem.Expr} {x x₂ y : Str} {scope : Scope} {cl : List (Str × Addr)} {Q : Flow → Shared → Prop} {l1 l2 : Addr} {news L9 : Led} {g : Int → Int → Int} {as bs : List Int} {n : Nat}
    (hh : A.handled = none) (F : Fr h₀ env.locals s.heap m) (N : News h₀ env.locals s.heap news) (hA : IntsIn L9 (.ref l1) as) (hB : IntsIn L9 (.ref l2) bs) (hs : ∀ p ∈ L9, p ∈ news) (hn1 : as.length = n) (hn2 : bs.length = n) (hsz : n < 1048576)
    (hel : ZElt prog w A env elt x x₂ scope cl g)
    (fin : ∀ D h tk ys, Fr h₀ env.locals h (fun z => if z = y then some (.ref D) else m z) → News h₀ env.locals h ((D, LCg.lst ys) :: news) → LCg.Off1 D news → IntsAre ys (List.zipWith g as bs) → Q .next { s with heap := h, toks := tk }) :
    wpAny (model prog w) A (call (.type "zip") [.ref l1, .ref l2]) (ZSrc prog w A h₀ m env elt x x₂ scope cl y Q) E s := by
  obtain ⟨_, xs, k1, e1, hm1, hi1⟩ := hA.open
  obtain ⟨_, ys, k2, e2, hm2, hi2⟩ := hB.open
  cases e1; cases e2
  have hl1 : s.heap.IsList l1 xs.toArray := ⟨_, (N _ (hs _ hm1)).1, rfl, _, rfl⟩
  have hl2 : s.heap.IsList l2 ys.toArray := ⟨_, (N _ (hs _ hm2)).1, rfl, _, rfl⟩
  have hlt1 : l1 < s.heap.objs.size := Heap.lt_size (N _ (hs _ hm1)).1
  have hlt2 : l2 < s.heap.objs.size := Heap.lt_size (N _ (hs _ hm2)).1
  have hLs : env.locals < s.heap.objs.size := F.ns.lt
  refine call_zip_2 hl1 hl2 fun h' hz hTI hTO hi1' hi2' hsz' hk => ?_
  have hwr : ∀ b, b ∈ [s.heap.objs.size + 4, s.heap.objs.size + 3, s.heap.objs.size, s.heap.objs.size + 1] → s.heap.objs.size ≤ b := fun b hb => by
    simp only [List.mem_cons, List.not_mem_nil, or_false] at hb
    rcases hb with rfl | rfl | rfl | rfl
    · exact Nat.le_add_right _ _
    · exact Nat.le_add_right _ _
    · exact Nat.le_refl _
    · exact Nat.le_add_right _ _
  have W := (WalksT.zip2 (prog := prog) (w := w) hh _ _ _ _ _ _ _ (ktu_apart _ _ _ hlt1 hlt2) xs.toArray ys.toArray).toU
  refine ⟨_, _, _, _, _, _, _, news, g, as, bs, rfl, W, ?_, ?_, ?_, ?_, hh, ⟨hz, hTI, ⟨_, _, hTO⟩, hi1', hi2', hl1.at fun o e => hk l1 o e, hl2.at fun o e => hk l2 o e⟩, ?_, F.keeps hk, N.grown hk, ?_, ?_, ?_, hel, fun D h tk zs F' N' o1 hz' => fin D h tk zs F' N' o1 hz'⟩
  · rintro i vals ⟨v1, v2, h1, h2, rfl⟩
    obtain ⟨a, t, rfl, ha⟩ := IntsAre.at hi1 i v1 (by simpa using h1)
    obtain ⟨b, u, rfl, hb⟩ := IntsAre.at hi2 i v2 (by simpa using h2)
    exact ⟨a, b, t, u, ha, hb, rfl⟩
  · simp only [List.size_toArray, hi1.length, hi2.length]; omega
  · simp only [List.size_toArray, hi1.length, hi2.length]; omega
  · rw [PySem.sizeLine_eq]; simp only [List.size_toArray, hi1.length, hi2.length]; omega
  · intro b hb
    show b < h'.objs.size
    rw [hsz']
    simp only [List.mem_cons, List.not_mem_nil, or_false] at hb
    rcases hb with rfl | rfl | rfl | rfl | rfl | rfl | rfl
    · exact Nat.lt_succ_self _
    · exact Nat.add_lt_add_left (by decide) _
    · exact Nat.add_lt_add_left (by decide) _
    · exact Nat.lt_add_of_pos_right (by decide)
    · exact Nat.add_lt_add_left (by decide) _
    · exact Nat.lt_of_lt_of_le hlt1 (Nat.le_add_right _ _)
    · exact Nat.lt_of_lt_of_le hlt2 (Nat.le_add_right _ _)
  · intro hm; exact absurd (hwr _ hm) (Nat.not_le.mpr hLs)
  · intro b hb; exact ktu_new F (hwr _ hb)
  · intro p hp hm; exact absurd (hwr _ hm) (Nat.not_le.mpr (Heap.lt_size (N p hp).1))
end
local macro_rules | `(tactic| walk_at "exec Assign cons ListComp") => `(tactic| (k_here; (with_reducible show wpAny _ _ (exec (Stmt.Assign _ (Expr.ListComp _ [⟨Expr.Tuple _ _ _, Expr.Call _ _ _ _, _, _⟩] _ _) _) _) _ _ _); k_dflt (refine' zc_Assign ?kF ?ka ?kb ?kc ?kd ?ke ?kf ?kg ?ki ?kj ?kk ?_; (case kF => k_asm); (case ka => with_unfolding_all rfl); (case kb => with_unfolding_all rfl); (case kc => decide); (case kd => rfl); (case ke => decide); (case kf => rfl); (case kg => rfl); (case ki => decide); (case kj => rfl); (case kk => rfl))))
local macro_rules | `(tactic| walk_at "call type:zip") => `(tactic| (k_here; (with_reducible show wpAny _ _ (call (Value.type _) [Value.ref _, Value.ref _]) (ZSrc _ _ _ _ _ _ _ _ _ _ _ _ _) _ _); k_dflt (refine' zc_call (g := fun a b => 3 * a + b) rfl ?kF ?kN ?kA ?kB ?ks ?k1 ?k2 ?k3 ?ke ?_; (case kF => k_asm); (case kN => k_asm); (case kA => assumption); (case kB => assumption); (case ks => kcj_all); (case k1 => assumption); (case k2 => assumption); (case k3 => omega)); (case ke => refine Stop.out ?_)))
noncomputable def softSums (R : List (List Int)) (H : Nat) (j : Nat) : List Int := List.zipWith (fun a b => 3 * a + b) (R.getD (nearF j).toNat []) (R.getD (farIn j H).toNat [])
noncomputable def softRow (R : List (List Int)) (H : Nat) (ac dn : Nat) (j : Nat) : List Int :=
  if dn = 1 then doubledRow (R.getD j []) 1 1 2 else if ac = 1 then (softSums R H j).map fun v => (v + 1 + (j : Int).fmod 2) >>> 2 else doubledRow (softSums R H j) 4 8 7
noncomputable def softR (R : List (List Int)) (H : Nat) (ac dn : Nat) : List (List Int) := (List.range (H * dn)).map (softRow R H ac dn)
theorem fd (a : Int) {b : Int} (h : 0 ≤ b) : a.fdiv b = a / b := Int.fdiv_eq_ediv_of_nonneg a h
theorem fm (a : Int) {b : Int} (h : 0 ≤ b) : a.fmod b = a % b := Int.fmod_eq_emod_of_nonneg a h
theorem near_lo {i : Nat} : 0 ≤ nearF (i : Int) := by unfold nearF; rw [fd _ (by decide)]; omega
theorem near_hi {i H : Nat} (h : i < H * 2) : nearF (i : Int) < H := by unfold nearF; rw [fd _ (by decide)]; omega
theorem farIn_lo {i H : Nat} : 0 ≤ farIn (i : Int) H := by unfold farIn farF nearF; rw [fd _ (by decide), fm _ (by decide)]; (repeat' split) <;> omega
theorem farIn_hi {i H : Nat} (h : i < H * 2) : farIn (i : Int) H < H := by unfold farIn farF nearF; rw [fd _ (by decide), fm _ (by decide)]; (repeat' split) <;> omega
theorem off_PL : True := by w_top off; trivial
theorem rect_len {R : List (List Int)} {W H k : Nat} (h : Rect R W H) (hk : k < H) : (R.getD k []).length = W := h.get hk
theorem keptIn_nat {a n : Nat} (h : a < n) : keptIn (a : Int) (n : Int) = (a : Int) := by unfold keptIn; rw [if_neg (by omega), if_pos (by omega)]
theorem keptIn_min {a n : Nat} (h : 0 < n) : (keptIn (a : Int) (n : Int)).toNat = min a (n - 1) := by unfold keptIn; rw [if_neg (by omega)]; split <;> omega
theorem farF_even {k : Nat} : farF ((2 * k : Nat) : Int) = (k : Int) - 1 := by unfold farF; rw [fd _ (by decide), fm _ (by decide), if_pos (by omega)]; omega
theorem farF_odd {k : Nat} : farF ((2 * k + 1 : Nat) : Int) = (k : Int) + 1 := by unfold farF; rw [fd _ (by decide), fm _ (by decide), if_neg (by omega)]; omega
theorem kept_far_even {k n : Nat} (h : k < n) : (keptIn (farF ((2 * k : Nat) : Int)) (n : Int)).toNat = if 0 < k then k - 1 else k := by rw [farF_even]; unfold keptIn; (repeat' split) <;> omega
theorem kept_far_odd {k n : Nat} (h : k < n) : (keptIn (farF ((2 * k + 1 : Nat) : Int)) (n : Int)).toNat = if k + 1 < n then k + 1 else k := by rw [farF_odd]; unfold keptIn; (repeat' split) <;> omega
theorem near_even {k : Nat} : ((2 * k : Nat) : Int).fdiv 2 = (k : Int) := by rw [fd _ (by decide)]; omega
theorem near_odd {k : Nat} : ((2 * k + 1 : Nat) : Int).fdiv 2 = (k : Int) := by rw [fd _ (by decide)]; omega
theorem mod_even {k : Nat} : ((2 * k : Nat) : Int).fmod 2 = 0 := by rw [fm _ (by decide)]; omega
theorem mod_odd {k : Nat} : ((2 * k + 1 : Nat) : Int).fmod 2 = 1 := by rw [fm _ (by decide)]; omega
theorem farIn_kept {j H : Nat} (h : j < H * 2) : farIn (j : Int) (H : Int) = keptIn (farF (j : Int)) (H : Int) := by
  unfold farIn keptIn farF nearF; rw [fd _ (by decide), fm _ (by decide)]; (repeat' split) <;> omega
/-- the items of a doubled row -/
theorem dr_getD (v : List Int) (sc le ri : Int) : ∀ (n k : Nat), k < n → ((List.range n).flatMap (drOne v sc le ri)).getD (2 * k) 0 = (drOne v sc le ri k).getD 0 0 ∧ ((List.range n).flatMap (drOne v sc le ri)).getD (2 * k + 1) 0 = (drOne v sc le ri k).getD 1 0
  | 0, k, h => absurd h (Nat.not_lt_zero _)
  | n + 1, k, h => by
    have hl : ((List.range n).flatMap (drOne v sc le ri)).length = 2 * n := dr_len v sc le ri n
    rw [List.range_succ, List.flatMap_append]
    simp only [List.flatMap_cons, List.flatMap_nil, List.append_nil, List.getD_eq_getElem?_getD]
    by_cases hk : k < n
    · obtain ⟨h1, h2⟩ := dr_getD v sc le ri n k hk
      simp only [List.getD_eq_getElem?_getD] at h1 h2
      rw [List.getElem?_append_left (by omega), List.getElem?_append_left (by omega)]
      exact ⟨h1, h2⟩
    · obtain rfl : k = n := by omega
      rw [List.getElem?_append_right (by omega), List.getElem?_append_right (by omega), hl]
      refine ⟨?_, ?_⟩
      · rw [Nat.sub_self]
      · rw [Nat.add_sub_cancel_left]
theorem dr_even {v : List Int} {sc le ri : Int} {k : Nat} (h : k < v.length) : (doubledRow v sc le ri).getD (2 * k) 0 = (3 * v.getD k 0 + v.getD (if 0 < k then k - 1 else k) 0 + le).fdiv (4 * sc) := by
  unfold doubledRow; rw [(dr_getD v sc le ri _ k h).1]; simp only [drOne]; split <;> rfl
theorem dr_odd {v : List Int} {sc le ri : Int} {k : Nat} (h : k < v.length) : (doubledRow v sc le ri).getD (2 * k + 1) 0 = (3 * v.getD k 0 + v.getD (if k + 1 < v.length then k + 1 else k) 0 + ri).fdiv (4 * sc) := by
  unfold doubledRow; rw [(dr_getD v sc le ri _ k h).2]; simp only [drOne, List.getD_cons_succ, List.getD_cons_zero]; split <;> rfl
theorem sums_len {R : List (List Int)} {W H j : Nat} (hr : Rect R W H) (h : j < H * 2) : (softSums R H j).length = W := by
  unfold softSums
  have h1 := rect_len hr (k := (nearF (j : Int)).toNat) (by have := near_hi (i := j) (H := H) h; have := near_lo (i := j); omega)
  have h2 := rect_len hr (k := (farIn (j : Int) H).toNat) (by have := farIn_hi (i := j) (H := H) h; have := farIn_lo (i := j) (H := H); omega)
  rw [List.length_zipWith, h1, h2, Nat.min_self]
theorem zip_getD {f : Int → Int → Int} {as bs : List Int} {k : Nat} (h1 : k < as.length) (h2 : k < bs.length) : (List.zipWith f as bs).getD k 0 = f (as.getD k 0) (bs.getD k 0) := by
  simp only [List.getD_eq_getElem?_getD, List.getElem?_zipWith, List.getElem?_eq_getElem h1, List.getElem?_eq_getElem h2]; rfl
/-- a sum of the near row and the far one, as the law reads it -/
theorem sums_at {R : List (List Int)} {W H j k : Nat} {X : Int} (hr : Rect R W H) (h : j < H * 2) (hk : k < W) (hX : (keptIn X (W : Int)).toNat = k) :
    (softSums R H j).getD k 0 = 3 * atR R W H X ((j : Int).fdiv 2) + atR R W H X (farF (j : Int)) := by
  have h1 := rect_len hr (k := (nearF (j : Int)).toNat) (by have := near_hi (i := j) (H := H) h; have := near_lo (i := j); omega)
  have h2 := rect_len hr (k := (farIn (j : Int) H).toNat) (by have := farIn_hi (i := j) (H := H) h; have := farIn_lo (i := j) (H := H); omega)
  have e1 : keptIn ((j : Int).fdiv 2) (H : Int) = nearF (j : Int) := by unfold nearF; have h3 := near_hi (i := j) (H := H) h; have h4 := near_lo (i := j); unfold nearF at h3 h4; unfold keptIn; rw [if_neg (by omega), if_pos h3]
  unfold softSums atR
  rw [hX, e1, ← farIn_kept h]
  rw [zip_getD (by rw [h1]; exact hk) (by rw [h2]; exact hk)]
theorem shift2 (a : Int) : a >>> 2 = a.fdiv 4 := by rw [Int.shiftRight_eq_div_pow, fd _ (by decide)]; rfl
theorem splitTwo (i : Nat) : (∃ k, i = 2 * k) ∨ ∃ k, i = 2 * k + 1 := by
  rcases Nat.mod_two_eq_zero_or_one i with h | h
  · exact .inl ⟨i / 2, by omega⟩
  · exact .inr ⟨i / 2, by omega⟩
/-- a soft row's sample, as the law computes it -/
theorem softRow_at {R : List (List Int)} {W H ac dn i j : Nat} (hr : Rect R W H) (ha : ac = 1 ∨ ac = 2) (hd : dn = 1 ∨ dn = 2) (hne : 2 < ac + dn) (hi : i < W * ac) (hj : j < H * dn) :
    (softRow R H ac dn j).getD i 0 = softF R W H (i : Int) (j : Int) (ac : Int) (dn : Int) := by
  unfold softRow softF
  rcases hd with rfl | rfl
  · obtain rfl : ac = 2 := by omega
    have hv : (R.getD j []).length = W := rect_len hr (by omega)
    have hy : (keptIn (j : Int) (H : Int)).toNat = j := by rw [keptIn_nat (by omega)]; rfl
    rw [if_pos rfl, if_neg (by decide), if_pos (by decide)]
    rcases splitTwo i with ⟨k, rfl⟩ | ⟨k, rfl⟩
    · have hk : k < W := by omega
      rw [dr_even (by omega), near_even, mod_even]; unfold atR; rw [kept_far_even hk, hy, keptIn_nat hk]
      rw [show ((k : Int)).toNat = k from rfl]; congr 1; omega
    · have hk : k < W := by omega
      rw [dr_odd (by omega), near_odd, mod_odd, hv]; unfold atR; rw [kept_far_odd hk, hy, keptIn_nat hk]
      rw [show ((k : Int)).toNat = k from rfl]; congr 1; omega
  · rw [if_neg (by decide)]
    have hj2 : j < H * 2 := hj
    have hs := sums_len hr hj2
    rcases ha with rfl | rfl
    · rw [if_pos rfl, if_neg (by decide), if_neg (by decide)]
      have hi1 : i < W := by omega
      have e := sums_at (k := i) (X := (i : Int)) hr hj2 hi1 (by rw [keptIn_nat hi1]; rfl)
      have hl : ((softSums R H j).map fun v => (v + 1 + (j : Int).fmod 2) >>> 2).getD i 0 = ((softSums R H j).getD i 0 + 1 + (j : Int).fmod 2) >>> 2 := by
        simp only [List.getD_eq_getElem?_getD, List.getElem?_map]
        rw [List.getElem?_eq_getElem (by rw [hs]; exact hi1)]; rfl
      rw [hl, e, shift2]
    · rw [if_neg (by decide), if_pos (by decide)]
      rcases splitTwo i with ⟨k, rfl⟩ | ⟨k, rfl⟩
      · have hk : k < W := by omega
        rw [dr_even (by omega), near_even, mod_even, sums_at (X := (k : Int)) hr hj2 hk (by rw [keptIn_nat hk]; rfl), sums_at (X := farF ((2 * k : Nat) : Int)) hr hj2 (by split <;> omega) (kept_far_even hk)]
        congr 1; omega
      · have hk : k < W := by omega
        rw [dr_odd (by omega), near_odd, mod_odd, hs, sums_at (X := (k : Int)) hr hj2 hk (by rw [keptIn_nat hk]; rfl), sums_at (X := farF ((2 * k + 1 : Nat) : Int)) hr hj2 (by split <;> omega) (kept_far_odd hk)]
        congr 1; omega
/-- a row alone, doubled -/
theorem doubled_is (v : List Int) (n : Nat) (hn : v.length = n) (hb : n < 1048576) : doubledRow v 1 1 2 = (List.range (2 * n)).map fun (i : Nat) => softF [v] n 1 (i : Int) 0 2 1 := by
  subst hn
  by_cases h0 : v.length = 0
  · rw [List.eq_nil_of_length_eq_zero h0]; rfl
  have hr : Rect [v] v.length 1 := ⟨by omega, by decide, hb, by decide, rfl, fun r hr => by rw [List.mem_singleton.mp hr]⟩
  have hl : (doubledRow v 1 1 2).length = 2 * v.length := dr_len v 1 1 2 _
  refine List.ext_getElem? fun i => ?_
  by_cases hi : i < 2 * v.length
  · have h := softRow_at (ac := 2) (dn := 1) (i := i) (j := 0) hr (.inr rfl) (.inl rfl) (by decide) (by omega) (by decide)
    have e : softRow [v] 1 2 1 0 = doubledRow v 1 1 2 := by unfold softRow; rw [if_pos rfl]; rfl
    rw [e] at h
    simp only [List.getD_eq_getElem?_getD] at h
    rw [List.getElem?_eq_getElem (by omega)] at h
    rw [List.getElem?_eq_getElem (by omega), List.getElem?_map, List.getElem?_range hi]
    exact congrArg some h
  · rw [List.getElem?_eq_none (by omega), List.getElem?_eq_none (by simp; omega)]
/-- the law's answer -/
noncomputable def dueRow (R : List (List Int)) (W H : Nat) (o0 o1 m0 m1 : Int) (soft : Bool) (wd : Nat) (j : Nat) : List Int :=
  if soft then (List.range wd).map fun (i : Nat) => softF R W H (min (i : Int) ((W : Int) * m0.fdiv o0 - 1)) (min (j : Int) ((H : Int) * m1.fdiv o1 - 1)) (m0.fdiv o0) (m1.fdiv o1)
  else (List.range wd).map fun (i : Nat) => atR R W H (((i : Int) * o0).fdiv m0) (((j : Int) * o1).fdiv m1)
noncomputable def isSoft (o0 o1 m0 m1 : Int) (s : Bool) : Bool := s && (m0.fmod o0 == 0 && m1.fmod o1 == 0) && decide (m0.fdiv o0 < 3) && decide (m1.fdiv o1 < 3) && !(m0.fdiv o0 == 1 && m1.fdiv o1 == 1)
noncomputable def dueR (R : List (List Int)) (W H : Nat) (o0 o1 m0 m1 : Int) (s : Bool) (wd ht : Nat) : List (List Int) := (List.range ht).map (dueRow R W H o0 o1 m0 m1 (isSoft o0 o1 m0 m1 s) wd)
/-- what grown hands back -/
noncomputable def grownR (R : List (List Int)) (W H ac dn : Nat) (s : Bool) (wd ht : Nat) : List (List Int) :=
  if s = true ∧ (ac = 1 ∨ ac = 2) ∧ (dn = 1 ∨ dn = 2) ∧ 2 < ac + dn then cutR (softR R H ac dn) (W * ac) (H * dn) 0 0 wd ht else repR R W H (ac : Int) 1 (dn : Int) 1 wd ht
theorem soft_due {R : List (List Int)} {W H ac dn wd ht : Nat} (hr : Rect R W H) (ha : ac = 1 ∨ ac = 2) (hd : dn = 1 ∨ dn = 2) (hne : 2 < ac + dn) :
    cutR (softR R H ac dn) (W * ac) (H * dn) 0 0 wd ht = (List.range ht).map fun (j : Nat) => (List.range wd).map fun (i : Nat) => softF R W H (min (i : Int) ((W : Int) * (ac : Int) - 1)) (min (j : Int) ((H : Int) * (dn : Int) - 1)) (ac : Int) (dn : Int) := by
  unfold cutR
  refine List.map_congr_left fun j _ => ?_
  unfold cutRow
  refine List.map_congr_left fun i _ => ?_
  have hWa : 0 < W * ac := Nat.mul_pos hr.w0 (by omega)
  have hHd : 0 < H * dn := Nat.mul_pos hr.h0 (by omega)
  unfold atR
  have e1 : (keptIn (0 + (j : Int)) ((H * dn : Nat) : Int)).toNat = min j (H * dn - 1) := by rw [Int.zero_add]; exact keptIn_min hHd
  have e2 : (keptIn (0 + (i : Int)) ((W * ac : Nat) : Int)).toNat = min i (W * ac - 1) := by rw [Int.zero_add]; exact keptIn_min hWa
  rw [e1, e2]
  have e3 : (softR R H ac dn).getD (min j (H * dn - 1)) [] = softRow R H ac dn (min j (H * dn - 1)) := by
    unfold softR
    rw [List.getD_eq_getElem?_getD, List.getElem?_map, List.getElem?_range (by omega)]; rfl
  rw [e3, softRow_at hr ha hd hne (by omega) (by omega)]
  congr 1
  · rw [← Int.natCast_mul]; omega
  · rw [← Int.natCast_mul]; omega
/-- even ratios: what is grown is what the law wants -/
theorem grown_due {R : List (List Int)} {W H ac dn wd ht : Nat} {o0 o1 m0 m1 : Int} {s : Bool} (hr : Rect R W H) (h0 : 0 < o0) (h1 : 0 < o1) (ha : 0 < ac) (hd : 0 < dn) (e0 : m0 = (ac : Int) * o0) (e1 : m1 = (dn : Int) * o1) :
    grownR R W H ac dn s wd ht = dueR R W H o0 o1 m0 m1 s wd ht := by
  have q0 : m0.fdiv o0 = (ac : Int) := by rw [e0]; exact Int.mul_fdiv_cancel _ (by omega)
  have q1 : m1.fdiv o1 = (dn : Int) := by rw [e1]; exact Int.mul_fdiv_cancel _ (by omega)
  have r0 : m0.fmod o0 = 0 := by rw [e0, Int.mul_fmod_left]
  have r1 : m1.fmod o1 = 0 := by rw [e1, Int.mul_fmod_left]
  have hs : isSoft o0 o1 m0 m1 s = true ↔ (s = true ∧ (ac = 1 ∨ ac = 2) ∧ (dn = 1 ∨ dn = 2) ∧ 2 < ac + dn) := by
    unfold isSoft; rw [q0, q1, r0, r1]
    simp only [Bool.and_eq_true, decide_eq_true_eq, Bool.not_eq_true', Bool.and_eq_false_iff, beq_eq_false_iff_ne, beq_iff_eq, ne_eq, and_true]
    constructor
    · rintro ⟨⟨⟨h1, h2⟩, h3⟩, h4⟩; exact ⟨h1, by omega, by omega, by omega⟩
    · rintro ⟨h1, h2, h3, h4⟩; exact ⟨⟨⟨h1, by omega⟩, by omega⟩, by omega⟩
  unfold grownR dueR
  by_cases hc : isSoft o0 o1 m0 m1 s = true
  · obtain ⟨_, h2, h3, h4⟩ := hs.mp hc
    rw [if_pos (hs.mp hc), soft_due hr h2 h3 h4]
    refine List.map_congr_left fun j _ => ?_
    unfold dueRow
    rw [if_pos hc, q0, q1]
  · rw [if_neg fun h => hc (hs.mpr h)]
    unfold repR
    refine List.map_congr_left fun j _ => ?_
    unfold dueRow repRow
    rw [if_neg hc]
    refine List.map_congr_left fun i _ => ?_
    congr 1
    · rw [e0, Int.mul_one, Int.mul_comm (ac : Int) o0, Int.mul_comm (i : Int) o0, Int.mul_fdiv_mul_of_pos _ _ h0]
    · rw [e1, Int.mul_one, Int.mul_comm (dn : Int) o1, Int.mul_comm (j : Int) o1, Int.mul_fdiv_mul_of_pos _ _ h1]
/-- uneven ratios -/
theorem rep_due {R : List (List Int)} {W H wd ht : Nat} {o0 o1 m0 m1 : Int} {s : Bool} (h : ¬ (m0.fmod o0 = 0 ∧ m1.fmod o1 = 0)) :
    repR R W H m0 o0 m1 o1 wd ht = dueR R W H o0 o1 m0 m1 s wd ht := by
  have hs : isSoft o0 o1 m0 m1 s = false := by
    unfold isSoft
    have : (m0.fmod o0 == 0 && m1.fmod o1 == 0) = false := by
      rw [Bool.and_eq_false_iff, beq_eq_false_iff_ne, beq_eq_false_iff_ne]
      by_cases h2 : m0.fmod o0 = 0
      · exact .inr fun h3 => h ⟨h2, h3⟩
      · exact .inl h2
    rw [this]; simp
  unfold repR dueR
  rw [hs]
  rfl
theorem off_N : True := by w_top off; trivial
theorem nat_ne {d : Nat} (h : (d : Int) ≠ 1) : d ≠ 1 := fun e => h (by rw [e]; rfl)
theorem nat_eq {d : Nat} (h : (d : Int) = 1) : d = 1 := Int.ofNat_inj.mp h
theorem off1_of {a : Addr} {o : Obj} : ∀ {l : Led}, (∀ q ∈ l, ∀ x ∈ [(a, o)], @Ne Nat q.1 x.1) → LCg.Off1 a l
  | [], _ => trivial
  | p :: _, h => ⟨h p (.head _) _ (.head _), off1_of fun q hq => h q (.tail _ hq)⟩
local macro_rules | `(tactic| walk_at "call ref") => `(tactic| (k_here; ktr_call (dr_spec _ _ _ _ _ _ _ _ _ _ _ ?h1 ?h2 ?h3 ?h4 ?h5) 138; (case h1 => first | assumption | exact IntsIn.mono (by assumption) (by kcj_all)); (case h2 => first | assumption | rfl); (case h3 => omega); (case h4 => omega); (case h5 => omega); intro r' tl' h' tk' F' N' hl' hp'; obtain ⟨a', ys', k', e1', e2', hI'⟩ := hp'; subst e1'; subst e2'; (replace hl' := off1_of hl'); (simp only [LCg.Off1, and_true] at hl'); (try simp only [List.cons_append, List.nil_append] at N'); (try dsimp only); (try k_sweep); (try k_fold)))
local macro_rules | `(tactic| walk_at "call ref") => `(tactic| (k_here; ktr_call (near_far_spec _ _ _ _ _ _) 131; intro r' tl' h' tk' F' N' hl' hp'; obtain ⟨a', t1', t2', n', e1', e2'⟩ := hp'; subst e1'; subst e2'; (replace hl' := off1_of hl'); (simp only [LCg.Off1, and_true] at hl'); (try simp only [List.cons_append, List.nil_append] at N'); (try dsimp only); (try k_sweep); (try k_fold)))
theorem mem_skip {x y d t : Addr × Obj} {l : Led} : ∀ p ∈ x :: y :: l, p ∈ x :: d :: t :: y :: l := by
  intro q hq
  simp only [List.mem_cons] at hq ⊢
  rcases hq with h | h | h <;> simp [h]
theorem soft_shift {i : Nat} {S : List Int} : (S.map fun k' => if 0 ≤ (i : Int).fmod 2 ∧ (i : Int).fmod 2 < 2 then (k' + 1 + (i : Int).fmod 2).fdiv (2 ^ Int.toNat 2) else k') = S.map fun v => (v + 1 + (i : Int).fmod 2) >>> 2 := by
  refine List.map_congr_left fun v _ => ?_
  rw [if_pos ⟨by rw [fm _ (by decide)]; omega, by rw [fm _ (by decide)]; omega⟩, shift2]; rfl
theorem ints_of_news {h₀ h : Heap} {L D : Addr} {zs : List Value} {rest : Led} {r : List Int} (_ : News h₀ L h ((D, LCg.lst zs) :: rest)) (hI : IntsAre zs r) : IntsIn ((D, LCg.lst zs) :: rest) (.ref D) r := IntsIn.of (n := zs.length) (.head _) hI
theorem TurnC.any {σ : Type} {h₀ : Heap} {L : Addr} {C : σ → Led} {ok : σ → Prop} {adr : List Addr} {temps : List Str} {m₀ : Str → Option Value} {D a' : Addr} {base rest own : Led} {f : Nat → List Int} {i : Nat} {s₁ : Shared} {h' : Heap} {tk : Nat} {m' : Str → Option Value} {c : σ} {ys ys' : List Value} {k n : Nat} {led : Led}
    (F : Fr h₀ L h' m') (N : News h₀ L h' led) (hs : ∀ p ∈ (a', listOf ys'.toArray n) :: (D, listOf (ys ++ [Value.ref a']).toArray k) :: (C c ++ (rest ++ own)), p ∈ led) (hc : ok c) (h1 : @Ne Nat D a') (h2 : ∀ b ∈ adr, @Ne Nat b a') (h3 : LCg.Off1 a' (rest ++ own)) (hit : Grown base f i rest ys) (hI : IntsAre ys' (f i)) (hm : ∀ z, temps.contains z = false → m' z = m₀ z) :
    TurnC h₀ L C ok adr temps m₀ D rest own (Grown base f (i + 1)) s₁ .next { s₁ with heap := h', toks := tk } :=
  TurnC.intro (led := led) c [(a', listOf ys'.toArray n)] _ _ F N hc (fun p hp => hs p (by
    rcases List.mem_cons.mp hp with rfl | hp
    · exact .tail _ (.head _)
    · rcases List.mem_append.mp hp with hp | hp
      · exact .tail _ (.tail _ (List.mem_append_left _ hp))
      · rcases List.mem_cons.mp hp with rfl | hp
        · exact .head _
        · exact .tail _ (.tail _ (List.mem_append_right _ hp)))) (fun q hq => by
    rw [List.mem_singleton.mp hq]
    exact ⟨Ne.symm h1, fun hm => h2 _ hm rfl, fun p hp => off1_mem h3 p hp⟩) (hit.step (n := n) hI fun p hp => off1_mem h3 p (List.mem_append_left _ hp)) hm
set_option maxRecDepth 100000 in
set_option maxHeartbeats 2500000 in
theorem soften_spec (w : World) (pl : Addr) (R : List (List Int)) (W H : Nat) (ac dn : Nat) (t1 t2 : Tok) (news : Led) (hP : PlaneIn w news pl W H R) (hr : Rect R W H) (ha : ac = 1 ∨ ac = 2) (hdn : dn = 1 ∨ dn = 2) (hne : 2 < ac + dn) (hH : H < 100000) (hW : W < 100000) :
    SpecAt w 124 4 40 news [.ref pl, .int ac t1, .int dn t2] (fun r tl => ∃ a, r = .ref a ∧ PlaneIn w tl a ((W * ac : Nat) : Int) ((H * dn : Nat) : Int) (softR R H ac dn)) := by
  unfold SpecAt
  intro p loose mean mg mb dp un gd cn cs a ccd cl outer A₀ base h₀ L m s Q E B F X N T hk hd hu hret
  refine wpAny_call ?_
  k_dflt ktr_enter
  rename_i g1 L1 h1 tk1 FG1 F1 B1 X1 T1 l1 o1 d1 N1
  replace d1 : o1.data = .cell none := d1
  obtain ⟨dx1, tw1, th1, q1, q2, q3, lr1, mm1, mm2, hR1⟩ := id hP
  have hHd : H * dn < 1048576 := by rcases hdn with rfl | rfl <;> omega
  k_steps
  rename IsRange _ _ 0 _ _ _ _ _ => hr9
  rename Fr _ _ _ _ => F9
  rename News _ _ _ _ => N9
  obtain ⟨hp0, hp1⟩ := ‹_ ∧ AllLt _ news›
  change wpAny _ _ _ _ _ _
  rw [← Int.natCast_mul] at hr9
  refine grow_loopC (fun o => [(L1 + 1, o)]) (fun o => ∃ v, o.data = .cell v) [L1 + 1] o1 [Str.ofString "near", Str.ofString "far", Str.ofString "sums"] (Grown news (softRow R H ac dn)) rfl hr9 (by omega) F9 N9 (fun _ => rfl) ⟨_, d1⟩
    (Off.below l1 (by omega) (all_one (by omega))) Grown.nil (fun _ _ => rfl) ?_ ?_
  · intro i t u ys k rest own c s₁ hi hit hb hc hD hA F2 N2
    obtain ⟨v, hc⟩ := hc
    have hP1 : PlaneIn w (rest ++ own) pl W H R := hP.mono fun p hp => List.mem_append_left _ (hb _ hp)
    have hA1 : ∀ p ∈ rest ++ own, p.1 ≠ L1 + 1 := fun p hp e => hA p hp (by rw [e]; exact .head _)
    simp only [List.cons_append, List.nil_append] at N2
    replace F2 : Fr g1 L1 s₁.heap _ := F2
    replace N2 : News g1 L1 s₁.heap _ := N2
    clear hr9 F9 N9 hR1 mm1 mm2
    obtain ⟨dx1, tw1, th1, q1, q2, q3, lr1, mm1, mm2, hR1⟩ := id hP1
    have hlen : ys.length = i := hit.len
    have hi1 : dn = 1 → i < H := fun e => by rw [e] at hi; omega
    have hi2 : dn ≠ 1 → i < H * 2 := fun e => by rw [hdn.resolve_left e] at hi; exact hi
    have b0 : dn ≠ 1 ∨ i < H := by by_cases e : dn = 1; exact .inr (hi1 e); exact .inl e
    have b1 : dn = 1 ∨ (0 ≤ nearF (i : Int) ∧ nearF (i : Int) < H ∧ 0 ≤ farIn (i : Int) H ∧ farIn (i : Int) H < H) := by by_cases e : dn = 1; exact .inl e; exact .inr ⟨near_lo, near_hi (hi2 e), farIn_lo, farIn_hi (hi2 e)⟩
    k_steps
    · rename IntsAre _ (doubledRow _ _ _ _) => hI9
      rename News _ _ _ _ => N9
      rename Fr _ _ _ _ => F9
      rename Obj => oc9
      rename oc9.data = _ => hc9
      obtain ⟨ho1, ho2, ho3⟩ := ‹_ ∧ _ ∧ LCg.Off1 _ (rest ++ own)›
      simp only [List.push_toArray] at N9
      have hd1 : dn = 1 := nat_eq (by assumption)
      refine TurnC.any F9 N9 (fun p hp => hp) ⟨_, hc9⟩ ho1 (all_one ho2) ho3 hit (by unfold softRow; rw [if_pos hd1]; exact hI9) (fun z hz => ?_)
      simp only [hz]; rfl
    · (with_reducible show wpAny _ _ (call (Value.type _) [Value.ref _, Value.ref _]) (ZSrc _ _ _ _ _ _ _ _ _ _ _ _ _) _ _)
      k_dflt (refine' zc_call (g := fun a b => 3 * a + b) rfl ?kF ?kN ?kA ?kB ?ks ?k1 ?k2 ?k3 ?ke ?_)
      case kF => k_asm
      case kN => k_asm
      case kA => assumption
      case kB => assumption
      case ks => kcj_all
      case k1 => assumption
      case k2 => assumption
      case k3 => omega
      case ke =>
        intro a b t u C s₉ m₂ E' hn e1 e2
        refine wpAny_BinOp (wpAny_BinOp (wpAny_Constant_int ?_))
        refine wpAny_Name (wpAny_loadName_local rfl (by rfl) hn e1 ?_)
        refine mul_fit (by decide) (by decide) ?_
        refine wpAny_Name (wpAny_loadName_local rfl (by rfl) hn e2 ?_)
        refine add_int ?_
        exact ⟨⟨_, rfl⟩, _, _, rfl, fun _ _ e => e⟩
      intro D₉ h₉ tk₉ zs F₉ N₉ ho hI
      dsimp only
      replace F₉ : Fr g1 L1 h₉ _ := F₉
      replace N₉ : News g1 L1 h₉ _ := N₉
      (try simp only [LCg.Off1, and_true] at ho)
      have hzl : zs.length = W := hI.length.trans (sums_len hr (hi2 (nat_ne (by assumption))))
      have hS : IntsIn _ (.ref D₉) (softSums R H i) := ints_of_news N₉ hI
      have hSl : (softSums R H i).length = W := sums_len hr (hi2 (nat_ne (by assumption)))
      replace hI : IntsAre zs (softSums R H i) := hI
      k_steps
      · rename IntsAre _ (List.map _ (softSums _ _ _)) => hI9
        rename News _ _ _ _ => N9
        rename Fr _ _ _ _ => F9
        rename Obj => oc9
        rename oc9.data = _ => hc9
        obtain ⟨hx1, hx2, ho1, ho2, ho3⟩ := ‹_ ∧ _ ∧ _ ∧ _ ∧ LCg.Off1 _ (rest ++ own)›
        simp only [List.push_toArray] at N9
        have hd1 : dn ≠ 1 := nat_ne (by assumption)
        have ha1 : ac = 1 := nat_eq (by assumption)
        refine TurnC.any (n := _) F9 N9 (fun p hp => mem_skip p hp) ⟨_, hc9⟩ ho1 (all_one ho2) ho3 hit ?_ (fun z hz => ?_)
        · unfold softRow; rw [if_neg hd1, if_pos ha1]; rw [soft_shift] at hI9; exact hI9
        · have z1 : z ≠ Str.ofString "sums" := by rintro rfl; exact absurd hz (by decide)
          have z2 : z ≠ Str.ofString "far" := by rintro rfl; exact absurd hz (by decide)
          have z3 : z ≠ Str.ofString "near" := by rintro rfl; exact absurd hz (by decide)
          simp only [if_neg z1, if_neg z2, if_neg z3, hz]; rfl
      · rename IntsAre _ (doubledRow _ _ _ _) => hI9
        rename News _ _ _ _ => N9
        rename Fr _ _ _ _ => F9
        rename Obj => oc9
        rename oc9.data = _ => hc9
        obtain ⟨hx1, hx2, ho1, ho2, ho3⟩ := ‹_ ∧ _ ∧ _ ∧ _ ∧ LCg.Off1 _ (rest ++ own)›
        simp only [List.push_toArray] at N9
        have hd1 : dn ≠ 1 := nat_ne (by assumption)
        have ha1 : ac ≠ 1 := nat_ne (by assumption)
        refine TurnC.any (n := _) F9 N9 (fun p hp => mem_skip p hp) ⟨_, hc9⟩ ho1 (all_one ho2) ho3 hit ?_ (fun z hz => ?_)
        · unfold softRow; rw [if_neg hd1, if_neg ha1]; exact hI9
        · have z1 : z ≠ Str.ofString "sums" := by rintro rfl; exact absurd hz (by decide)
          have z2 : z ≠ Str.ofString "far" := by rintro rfl; exact absurd hz (by decide)
          have z3 : z ≠ Str.ofString "near" := by rintro rfl; exact absurd hz (by decide)
          simp only [if_neg z1, if_neg z2, if_neg z3, hz]; rfl
  · intro ys k rest c u h tk hit hb hc hD F1 N1
    clear hr9 F9 N9
    replace F1 : Fr g1 L1 h _ := F1
    replace N1 : News g1 L1 h _ := N1
    simp only [List.cons_append, List.nil_append] at N1
    have hP1 : PlaneIn w rest pl W H R := hP.mono hb
    clear hR1 mm1 mm2
    obtain ⟨dx1, tw1, th1, q1, q2, q3, lr1, mm1, mm2, hR1⟩ := id hP1
    k_steps
    rw [← Int.natCast_mul, ← Int.natCast_mul] at *
    rename PlaneOb _ _ _ _ _ _ => hP9
    rename News h₀ L _ _ => N9
    obtain ⟨tl, N8, hl8, hP8⟩ := hit.plane (news := news) (Cs := [(L1 + 1, c)]) hP9 N9 (fun p hp => hp) (by assumption) hD
    exact hret _ tl _ _ (by assumption) N8 hl8 ⟨_, rfl, by unfold softR; exact hP8⟩
theorem off_O : True := by w_top off; trivial
theorem softRow_len {R : List (List Int)} {W H ac dn j : Nat} (hr : Rect R W H) (ha : ac = 1 ∨ ac = 2) (hd : dn = 1 ∨ dn = 2) (hne : 2 < ac + dn) (hj : j < H * dn) : (softRow R H ac dn j).length = W * ac := by
  unfold softRow
  rcases hd with rfl | rfl
  · obtain rfl : ac = 2 := by omega
    have hv : (R.getD j []).length = W := rect_len hr (by omega)
    rw [if_pos rfl]; unfold doubledRow; rw [dr_len, hv]; omega
  · have hs := sums_len hr (j := j) hj
    rw [if_neg (by decide)]
    rcases ha with rfl | rfl
    · rw [if_pos rfl, List.length_map, hs]; omega
    · rw [if_neg (by decide)]; unfold doubledRow; rw [dr_len, hs]; omega
theorem softR_rect {R : List (List Int)} {W H ac dn : Nat} (hr : Rect R W H) (ha : ac = 1 ∨ ac = 2) (hd : dn = 1 ∨ dn = 2) (hne : 2 < ac + dn) (hW : W < 100000) (hH : H < 100000) : Rect (softR R H ac dn) (W * ac) (H * dn) := by
  have hw := hr.w0
  have hh := hr.h0
  refine ⟨Nat.mul_pos hw (by omega), Nat.mul_pos hh (by omega), by rcases ha with rfl | rfl <;> omega, by rcases hd with rfl | rfl <;> omega, by unfold softR; simp, fun r hm => ?_⟩
  unfold softR at hm
  obtain ⟨j, hj, rfl⟩ := List.mem_map.mp hm
  exact softRow_len hr ha hd hne (List.mem_range.mp hj)
theorem led_two {h₀ h : Heap} {L : Addr} {t1 t2 news : Led} (N : News h₀ L h (t2 ++ (t1 ++ news))) (l1 : ∀ q ∈ news, ∀ x ∈ t1, @Ne Nat q.1 x.1) (l2 : ∀ q ∈ t1 ++ news, ∀ x ∈ t2, @Ne Nat q.1 x.1) :
    News h₀ L h ((t2 ++ t1) ++ news) ∧ ∀ q ∈ news, ∀ x ∈ t2 ++ t1, @Ne Nat q.1 x.1 :=
  ⟨by rw [List.append_assoc]; exact N, fun q hq x hx => (List.mem_append.mp hx).elim (l2 q (List.mem_append_right _ hq) x) (l1 q hq x)⟩
theorem any12 {n : Nat} (h : ([1, 2].any fun x => x == (n : Int)) = true) : n = 1 ∨ n = 2 := by
  simp only [List.any_cons, List.any_nil, Bool.or_false, Bool.or_eq_true, beq_iff_eq] at h; omega
theorem not12 {n : Nat} (e : n = 1 ∨ n = 2) (h : ([1, 2].any fun x => x == (n : Int)) = false) : False := by
  rcases e with rfl | rfl <;> exact absurd h (by decide)
theorem soft_end {h₀ h : Heap} {L : Addr} {t1 t2 l news : Led} (N : News h₀ L h (t2 ++ (t1 ++ l))) (l1 : ∀ q ∈ l, ∀ x ∈ t1, @Ne Nat q.1 x.1) (l2 : ∀ q ∈ t1 ++ l, ∀ x ∈ t2, @Ne Nat q.1 x.1) (hs : ∀ p ∈ news, p ∈ l) :
    News h₀ L h ((t2 ++ t1) ++ news) ∧ ∀ q ∈ news, ∀ x ∈ t2 ++ t1, @Ne Nat q.1 x.1 :=
  led_two (fun p hp => N p (by
    rcases List.mem_append.mp hp with h | h
    · exact List.mem_append_left _ h
    · rcases List.mem_append.mp h with h | h
      · exact List.mem_append_right _ (List.mem_append_left _ h)
      · exact List.mem_append_right _ (List.mem_append_right _ (hs p h)))) (fun q hq => l1 q (hs q hq)) fun q hq => l2 q (by
    rcases List.mem_append.mp hq with h | h
    · exact List.mem_append_left _ h
    · exact List.mem_append_right _ (hs q h))
theorem led_drop {h₀ h : Heap} {L : Addr} {tl l news : Led} (N : News h₀ L h (tl ++ l)) (hl : ∀ q ∈ l, ∀ x ∈ tl, @Ne Nat q.1 x.1) (hs : ∀ p ∈ news, p ∈ l) : News h₀ L h (tl ++ news) ∧ ∀ q ∈ news, ∀ x ∈ tl, @Ne Nat q.1 x.1 :=
  ⟨fun p hp => N p ((List.mem_append.mp hp).elim (List.mem_append_left _) fun h => List.mem_append_right _ (hs p h)), fun q hq => hl q (hs q hq)⟩
local macro_rules | `(tactic| walk_at "call ref") => `(tactic| (k_here; ktr_call (soften_spec _ _ _ _ _ _ _ _ _ _ ?h1 ?h2 ?h3 ?h4 ?h5 ?h6 ?h7) 124; (case h1 => first | assumption | exact PlaneIn.mono (by assumption) (by kcj_all)); (case h2 => assumption); (case h3 => exact any12 (by assumption)); (case h4 => exact any12 (by assumption)); (case h5 => omega); (case h6 => omega); (case h7 => omega); intro r' tl' h' tk' F' N' hl' hp'; obtain ⟨a', e1', hP'⟩ := hp'; subst e1'; (try dsimp only); (try k_sweep); (try k_fold)))
local macro_rules | `(tactic| walk_at "call ref") => `(tactic| (k_here; ktr_call (cut_spec _ _ _ _ _ _ _ _ _ _ _ _ _ _ ?h1 ?h2 ?h3 ?h4) 100; (case h1 => first | assumption | exact PlaneIn.mono (by assumption) (by kcj_all)); (case h2 => first | assumption | exact softR_rect (by assumption) (any12 (by assumption)) (any12 (by assumption)) (by omega) (by omega) (by omega)); (case h3 => omega); (case h4 => omega); intro r' tl' h' tk' F' N' hl' hp'; obtain ⟨a', e1', hP'⟩ := hp'; subst e1'; (try dsimp only); (try k_sweep); (try k_fold)))
local macro_rules | `(tactic| walk_at "call ref") => `(tactic| (k_here; ktr_call (rep_spec _ _ _ _ _ _ _ _ _ _ _ _ _ _ _ _ _ _ ?h1 ?h2 ?h3 ?h4 ?h5 ?h6 ?h7 ?h8) 112; (case h1 => first | assumption | exact PlaneIn.mono (by assumption) (by kcj_all)); (case h2 => assumption); (case h3 => omega); (case h4 => omega); (case h5 => omega); (case h6 => omega); (case h7 => omega); (case h8 => omega); intro r' tl' h' tk' F' N' hl' hp'; obtain ⟨a', e1', hP'⟩ := hp'; subst e1'; (try dsimp only); (try k_sweep); (try k_fold)))
set_option maxRecDepth 100000 in
set_option maxHeartbeats 4000000 in
theorem grown_spec (w : World) (pl : Addr) (R : List (List Int)) (W H ac dn wd ht : Nat) (s₀ : Bool) (t1 t2 t3 t4 : Tok) (news : Led) (hP : PlaneIn w news pl W H R) (hr : Rect R W H) (hW : W < 100000) (hH : H < 100000) (ha : 0 < ac) (hd : 0 < dn) (ha1 : ac < 1048576) (hd1 : dn < 1048576) (hw : wd < 1048576) (hh : ht < 1048576) :
    SpecAt w 107 6 48 news [.ref pl, .int ac t1, .int dn t2, .int wd t3, .int ht t4, .bool s₀] (fun r tl => ∃ a, r = .ref a ∧ PlaneIn w tl a wd ht (grownR R W H ac dn s₀ wd ht)) := by
  unfold SpecAt
  intro p loose mean mg mb dp un gd cn cs a ccd cl outer A₀ base h₀ L m s Q E B F X N T hk hd9 hu hret
  refine wpAny_call ?_
  k_dflt ktr_enter
  obtain ⟨dx1, tw1, th1, q1, q2, q3, lr1, mm1, mm2, hR1⟩ := id hP
  have hw0 := hr.w0
  k_steps
  · rename News h₀ L _ _ => N9
    rename PlaneIn _ _ _ _ _ (cutR _ _ _ _ _ _ _) => hP9
    obtain ⟨N8, l8⟩ := soft_end (news := news) N9 (by assumption) (by assumption) (by kcj_all)
    refine hret _ _ _ _ (by assumption) N8 l8 ⟨_, rfl, ?_⟩
    rw [grownR, if_pos ⟨by assumption, any12 (by assumption), any12 (by assumption), by omega⟩]
    exact hP9.mono fun p hp => List.mem_append_left _ hp
  all_goals (
    rename News h₀ L _ _ => N9
    rename PlaneIn _ _ _ _ _ (repR _ _ _ _ _ _ _ _ _) => hP9
    obtain ⟨N8, l8⟩ := led_drop (news := news) N9 (by assumption) (by kcj_all)
    refine hret _ _ _ _ (by assumption) N8 l8 ⟨_, rfl, ?_⟩
    rw [grownR, if_neg ?_]
    · exact hP9
    · rintro ⟨e1, e2, e3, e4⟩
      first
        | omega
        | exact not12 e2 (by assumption)
        | exact not12 e3 (by assumption)
        | (rw [e1] at *; contradiction)
        | simp_all)

theorem grown_specI (w : World) (pl : Addr) (R : List (List Int)) (W H ac dn wd ht : Nat) (a₀ d₀ : Int) (s₀ : Bool) (t1 t2 t3 t4 : Tok) (news : Led) (ea : a₀ = (ac : Int)) (ed : d₀ = (dn : Int)) (hP : PlaneIn w news pl W H R) (hr : Rect R W H) (hW : W < 100000) (hH : H < 100000) (ha : 0 < ac) (hd : 0 < dn) (ha1 : ac < 1048576) (hd1 : dn < 1048576) (hw : wd < 1048576) (hh : ht < 1048576) :
    SpecAt w 107 6 48 news [.ref pl, .int a₀ t1, .int d₀ t2, .int wd t3, .int ht t4, .bool s₀] (fun r tl => ∃ a, r = .ref a ∧ PlaneIn w tl a wd ht (grownR R W H ac dn s₀ wd ht)) := by
  subst ea ed
  exact grown_spec w pl R W H ac dn wd ht s₀ t1 t2 t3 t4 news hP hr hW hH ha hd ha1 hd1 hw hh
local macro_rules | `(tactic| walk_at "call ref") => `(tactic| (k_here; ktr_call (grown_specI _ _ _ _ _ _ _ _ _ _ _ _ _ _ _ _ _ ?ea ?ed ?h1 ?h2 ?h3 ?h4 ?h5 ?h6 ?h7 ?h8 ?h9 ?h0) 107; (case ea => first | assumption | exact rfl); (case ed => first | assumption | exact rfl); (case h1 => first | assumption | exact PlaneIn.mono (by assumption) (by kcj_all)); (case h2 => assumption); (case h3 => omega); (case h4 => omega); (case h5 => omega); (case h6 => omega); (case h7 => omega); (case h8 => omega); (case h9 => omega); (case h0 => omega); intro r' tl' h' tk' F' N' hl' hp'; obtain ⟨a', e1', hP'⟩ := hp'; subst e1'; (try dsimp only); (try k_sweep); (try k_fold)))
theorem fdiv_lo {m o : Int} (h0 : 0 < o) (h : o ≤ m) : 1 ≤ m.fdiv o := by rw [fd _ (by omega)]; exact Int.le_ediv_of_mul_le h0 (by omega)
theorem fdiv_hi {m o : Int} (h0 : 0 < o) (h : 0 ≤ m) : m.fdiv o ≤ m := by rw [fd _ (by omega)]; exact Int.ediv_le_self _ h
theorem fdiv_even {m o : Int} (h : m.fmod o = 0) : m = m.fdiv o * o := by have := Int.mul_fdiv_add_fmod m o; rw [h, Int.mul_comm] at this; omega
set_option maxRecDepth 100000 in
set_option maxHeartbeats 4000000 in
theorem grown_to_spec (w : World) (pl : Addr) (R : List (List Int)) (W H : Nat) (o0 o1 m0 m1 : Int) (wd ht : Nat) (s₀ : Bool) (t1 t2 t3 t4 t5 t6 : Tok) (news : Led) (hP : PlaneIn w news pl W H R) (hr : Rect R W H) (hW : W < 100000) (hH : H < 100000) (h0 : 0 < o0) (h1 : 0 < o1) (k0 : o0 ≤ m0) (k1 : o1 ≤ m1) (g0 : m0 < 1000000) (g1 : m1 < 1000000) (hw : wd < 1048576) (hh : ht < 1048576) :
    SpecAt w 119 8 56 news [.ref pl, .int o0 t1, .int m0 t2, .int o1 t3, .int m1 t4, .int wd t5, .int ht t6, .bool s₀] (fun r tl => ∃ a, r = .ref a ∧ PlaneIn w tl a wd ht (dueR R W H o0 o1 m0 m1 s₀ wd ht)) := by
  unfold SpecAt
  intro p loose mean mg mb dp un gd cn cs a ccd cl outer A₀ base h₀ L m s Q E B F X N T hk hd9 hu hret
  refine wpAny_call ?_
  k_dflt ktr_enter
  have b0 := fdiv_lo h0 k0
  have b1 := fdiv_lo h1 k1
  have b2 := fdiv_hi (m := m0) h0 (by omega)
  have b3 := fdiv_hi (m := m1) h1 (by omega)
  obtain ⟨ac, ea⟩ : ∃ ac : Nat, m0.fdiv o0 = (ac : Int) := ⟨(m0.fdiv o0).toNat, by omega⟩
  obtain ⟨dn, ed⟩ : ∃ dn : Nat, m1.fdiv o1 = (dn : Int) := ⟨(m1.fdiv o1).toNat, by omega⟩
  k_steps
  · rename News h₀ L _ _ => N9
    rename PlaneIn _ _ _ _ _ (grownR _ _ _ _ _ _ _ _) => hP9
    refine hret _ _ _ _ (by assumption) N9 (by assumption) ⟨_, rfl, ?_⟩
    rw [← grown_due (ac := ac) (dn := dn) hr h0 h1 (by omega) (by omega) (by rw [← ea]; exact fdiv_even (by assumption)) (by rw [← ed]; exact fdiv_even (by assumption))]
    exact hP9
  all_goals (
    rename News h₀ L _ _ => N9
    rename PlaneIn _ _ _ _ _ (repR _ _ _ _ _ _ _ _ _) => hP9
    refine hret _ _ _ _ (by assumption) N9 (by assumption) ⟨_, rfl, ?_⟩
    rw [← rep_due (by rintro ⟨e1, e2⟩; contradiction)]
    exact hP9)
theorem off_P : True := by w_top off; trivial
/-- a tuple of two ints in a ledger -/
noncomputable def PairIn (news : Led) (a : Addr) (x y : Int) : Prop := ∃ t u n, (a, ({ cls := .type "tuple", data := .seq #[.int x t, .int y u] n } : Obj)) ∈ news
theorem PairIn.mono {news news' : Led} {a : Addr} {x y : Int} (h : PairIn news a x y) (hs : ∀ p ∈ news, p ∈ news') : PairIn news' a x y := by
  obtain ⟨t, u, n, hm⟩ := h; exact ⟨t, u, n, hs _ hm⟩
/-- what a bool's ways leave -/
noncomputable def JoinPost (h₀ : Heap) (L : Addr) (m : Str → Option Value) (news : Led) (s : Shared) (b : Bool) (v : Value) (s₁ : Shared) : Prop :=
  v = .bool b ∧ ∃ h tk led, s₁ = { s with heap := h, toks := tk } ∧ Fr h₀ L h m ∧ News h₀ L h led ∧ ∀ p ∈ news, p ∈ led
theorem JoinPost.intro {h₀ : Heap} {L : Addr} {m : Str → Option Value} {news led : Led} {s : Shared} {b c : Bool} {h : Heap} {tk : Nat} (F : Fr h₀ L h m) (N : News h₀ L h led) (hs : ∀ p ∈ news, p ∈ led) (e : c = b) :
    JoinPost h₀ L m news s b (.bool c) { s with heap := h, toks := tk } := ⟨congrArg Value.bool e, h, tk, led, rfl, F, N, hs⟩
/-- an assignment of a bool whose ways meet -/
theorem assign_join {M : Model} {A : Around} {E : Value → Shared → Prop} {s : Shared} {env : Env} {value : PySem.Expr} {x : Str} {pos' pos : Pos} {Q : Flow → Shared → Prop} {h₀ : Heap} {L : Addr} {m : Str → Option Value} {news : Led} (b : Bool) (_ : Fr h₀ L s.heap m) (_ : News h₀ L s.heap news)
    (hv : wpAny M A (eval value env) (JoinPost h₀ L m news s b) E s)
    (rest : ∀ h tk, Fr h₀ L h m → News h₀ L h news → wpAny M A (storeName env x (.bool b)) (fun _ => Q .next) E { s with heap := h, toks := tk })
    (hs : swapsWith value (some (.Name x pos')) pos.line env = pure false := by rfl) :
    wpAny M A (exec (.Assign [.Name x pos'] value pos) env) Q E s := by
  refine wpAny_Assign_Name (wpAny_mono hv (fun v s₁ h₁ => ?_) fun _ _ e => e) hs
  obtain ⟨rfl, h, tk, led, rfl, F, N, hsub⟩ := h₁
  exact rest h tk F (fun p hp => N p (hsub p hp))
local macro_rules | `(tactic| ke_room) => `(tactic| ktr_units)
local macro_rules | `(tactic| walk_at "exec Assign cons BoolOp") => `(tactic| (k_here; refine Stop.out ?_))
theorem TurnC.pair {h₀ : Heap} {L a1 a2 : Addr} {temps : List Str} {m₀ : Str → Option Value} {D a' : Addr} {base rest own : Led} {f : Nat → List Int} {i : Nat} {s₁ : Shared} {h' : Heap} {tk : Nat} {m' : Str → Option Value} {x y : Obj} {ys ys' : List Value} {k : Nat}
    (F : Fr h₀ L h' m') (N : News h₀ L h' ((a', LCg.lst ys') :: (D, listOf (ys ++ [Value.ref a']).toArray k) :: (a1, x) :: (a2, y) :: (rest ++ own))) (hx : ∃ v, x.data = .cell v) (hy : ∃ v, y.data = .cell v) (h1 : @Ne Nat D a') (h2 : @Ne Nat a1 a') (h4 : @Ne Nat a2 a') (h3 : LCg.Off1 a' (rest ++ own)) (hit : Grown base f i rest ys) (hI : IntsAre ys' (f i)) (hm : ∀ z, temps.contains z = false → m' z = m₀ z) :
    TurnC h₀ L (fun c : Obj × Obj => [(a1, c.1), (a2, c.2)]) (fun c => (∃ v, c.1.data = .cell v) ∧ ∃ v, c.2.data = .cell v) [a1, a2] temps m₀ D rest own (Grown base f (i + 1)) s₁ .next { s₁ with heap := h', toks := tk } :=
  TurnC.one (c := (x, y)) F N ⟨hx, hy⟩ h1 (all_two h2 h4) h3 hit hI hm
theorem min_if (a b : Int) : (if b < a then b else a) = min a b := by omega
/-- the list of rows that was built -/
theorem Grown.rows {h₀ h' : Heap} {L D : Addr} {base rest news Cs : Led} {f : Nat → List Int} {n k : Nat} {ys : List Value} (h : Grown base f n rest ys)
    (N : News h₀ L h' ((D, listOf ys.toArray k) :: (Cs ++ rest))) (hb : ∀ p ∈ news, p ∈ base) (hD : ∀ p ∈ rest, p.1 ≠ D) :
    ∃ tl, News h₀ L h' (tl ++ news) ∧ (∀ q ∈ news, ∀ x ∈ tl, @Ne Nat q.1 x.1) ∧ RowsIn tl (.ref D) ((List.range n).map f) := by
  obtain ⟨add, rfl, hd, hn⟩ := h
  refine ⟨(D, listOf ys.toArray k) :: add, fun p hp => N p ?_, fun q hq x hx => ?_, RowsIn.of (.head _) (hd.mono fun p hp => .tail _ hp)⟩
  · rcases List.mem_append.mp hp with hp | hp
    · rcases List.mem_cons.mp hp with rfl | hp
      · exact .head _
      · exact .tail _ (List.mem_append_right _ (List.mem_append_left _ hp))
    · exact .tail _ (List.mem_append_right _ (List.mem_append_right _ (hb _ hp)))
  · rcases List.mem_cons.mp hx with rfl | hx
    · exact hD q (List.mem_append_right _ (hb _ hq))
    · exact hn q (hb _ hq) x hx
set_option maxRecDepth 100000 in
set_option maxHeartbeats 4000000 in
theorem due_spec (w : World) (l ao am az : Addr) (R : List (List Int)) (W H : Nat) (u0 u1 m0 m1 : Int) (wd ht : Nat) (s₀ : Bool) (news : Led) (hR : RowsIn news (.ref l) R) (hr : Rect R W H) (hW : W < 100000) (hH : H < 100000)
    (po : PairIn news ao u0 u1) (pm : PairIn news am m0 m1) (pz : PairIn news az wd ht) (e0 : 0 < u0) (e1 : 0 < u1) (k0 : u0 ≤ m0) (k1 : u1 ≤ m1) (g0 : m0 < 1000) (g1 : m1 < 1000) (hw : wd < 1000) (hh : ht < 1000) :
    SpecAt w 192 4 128 news [.ref l, .ref ao, .ref am, .ref az, .bool s₀] (fun r tl => RowsIn tl r (dueR R W H u0 u1 m0 m1 s₀ wd ht)) := by
  unfold SpecAt
  intro p loose mean mg mb dp un gd cn cs a ccd cl outer A₀ base h₀ L m s Q E B F X N T hk hd hu hret
  refine wpAny_call ?_
  k_dflt ktr_enter
  rename_i g1 L1 h1 tk1 FG1 F1 B1 X1 T1 l1 o1 o2 o3 o4 o5 o6 o7 d1 d2 d3 d4 d5 d6 d7 N1
  replace d1 : o1.data = .cell none := d1
  replace d2 : o2.data = .cell none := d2
  replace d3 : o3.data = .cell none := d3
  replace d4 : o4.data = .cell none := d4
  replace d5 : o5.data = .cell (some (.ref am)) := d5
  replace d6 : o6.data = .cell (some (.ref ao)) := d6
  replace d7 : o7.data = .cell (some (.ref l)) := d7
  obtain ⟨q1, q2, nq, hmo⟩ := id po
  obtain ⟨q3, q4, nm, hmm⟩ := id pm
  obtain ⟨q5, q6, nz, hmz⟩ := id pz
  have b0 := fdiv_lo e0 k0
  have b1 := fdiv_lo e1 k1
  have b2 := fdiv_hi (m := m0) e0 (by omega)
  have b3 := fdiv_hi (m := m1) e1 (by omega)
  have hc4 : ∀ p ∈ news, p.1 ≠ L1 + 1 + 1 + 1 + 1 := fun p hp => Nat.ne_of_lt (Nat.lt_trans (l1 p hp) (by omega))
  have hc5 : ∀ p ∈ news, p.1 ≠ L1 + 1 + 1 + 1 + 1 + 1 := fun p hp => Nat.ne_of_lt (Nat.lt_trans (l1 p hp) (by omega))
  k_steps
  rename News _ _ _ _ => N9
  rename Fr _ _ _ _ => F9
  refine Stop.out ?_
  refine assign_join (m0.fmod u0 == 0 && m1.fmod u1 == 0) F9 N9 ?_ ?_
  · k_steps
    all_goals (
      rename News _ _ _ _ => N8
      refine JoinPost.intro (by assumption) N8 (by kcj_all) ?_
      simp [*])
  intro h8 tk8 F8 N8
  clear F9 N9
  k_steps
  refine Stop.out ?_
  rename News _ _ _ _ => N9
  rename Fr _ _ _ _ => F9
  refine assign_join (isSoft u0 u1 m0 m1 s₀) F9 N9 ?_ ?_
  · k_steps
    all_goals (
      rename News _ _ _ _ => N8
      refine JoinPost.intro (by assumption) N8 (by kcj_all) ?_
      simp [isSoft, *])
  intro h8 tk8 F8 N8
  clear F9 N9
  k_steps
  rename IsRange _ _ 0 (ht : Int) _ _ _ _ => hr9
  rename Fr _ _ _ _ => F9
  rename News _ _ _ _ => N9
  obtain ⟨hp7, hp6, hp5, hp4, hp3, hp2, hp1, hp0⟩ := ‹_ ∧ _ ∧ _ ∧ _ ∧ _ ∧ _ ∧ _ ∧ AllLt _ news›
  have hw0 := hr.w0; have hh0 := hr.h0; have hw1 := hr.w1; have hh1 := hr.h1
  change wpAny _ _ _ _ _ _
  refine grow_loopC (σ := Obj × Obj) (fun c => [(L1 + 1 + 1 + 1 + 1 + 1 + 1 + 1, c.1), (L1 + 1 + 1 + 1 + 1 + 1 + 1, c.2)]) (fun c => (∃ v, c.1.data = .cell v) ∧ ∃ v, c.2.data = .cell v) [L1 + 1 + 1 + 1 + 1 + 1 + 1 + 1, L1 + 1 + 1 + 1 + 1 + 1 + 1] (o1, o2) [Str.ofString "y"] (Grown _ (dueRow R W H u0 u1 m0 m1 (isSoft u0 u1 m0 m1 s₀) wd)) rfl hr9 (by omega) F9 (fun q hq => N9 q (.tail _ hq)) (fun _ => rfl) ⟨⟨_, d1⟩, _, d2⟩
    (Off.cons (Nat.ne_of_lt hp5) (all_two (by omega) (by omega)) (Off.cons (Nat.ne_of_lt hp4) (all_two (by omega) (by omega)) (Off.cons (Nat.ne_of_lt hp3) (all_two (by omega) (by omega)) (Off.cons (Nat.ne_of_lt hp2) (all_two (by omega) (by omega)) (Off.cons (Nat.ne_of_lt hp1) (all_two (by omega) (by omega)) (Off.below l1 (Nat.lt_trans (by omega) hp1) (all_two (by omega) (by omega)))))))) Grown.nil (fun _ _ => rfl) ?_ ?_
  · intro i t u ys k rest own c s₁ hi hit hb hc hD hA F2 N2
    obtain ⟨c1, c2⟩ := c
    obtain ⟨⟨v1, hc1⟩, v2, hc2⟩ := hc
    replace hc1 : c1.data = .cell v1 := hc1
    replace hc2 : c2.data = .cell v2 := hc2
    have n1 := List.mem_append_left own (hb _ (.head _))
    have n2 := List.mem_append_left own (hb _ (.tail _ (.head _)))
    have n3 := List.mem_append_left own (hb _ (.tail _ (.tail _ (.head _))))
    have n4 := List.mem_append_left own (hb _ (.tail _ (.tail _ (.tail _ (.head _)))))
    have n5 := List.mem_append_left own (hb _ (.tail _ (.tail _ (.tail _ (.tail _ (.head _))))))
    have hsub : ∀ p ∈ news, p ∈ rest ++ own := fun p hp => List.mem_append_left _ (hb _ (.tail _ (.tail _ (.tail _ (.tail _ (.tail _ hp))))))
    have hmo1 := hsub _ hmo
    have hmm1 := hsub _ hmm
    have hmz1 := hsub _ hmz
    have hR1 : RowsIn (rest ++ own) (.ref l) R := hR.mono hsub
    have hA1 : ∀ p ∈ rest ++ own, p.1 ≠ L1 + 1 + 1 + 1 + 1 + 1 + 1 + 1 := fun p hp e => hA p hp (by rw [e]; exact .head _)
    have hA2 : ∀ p ∈ rest ++ own, p.1 ≠ L1 + 1 + 1 + 1 + 1 + 1 + 1 := fun p hp e => hA p hp (by rw [e]; exact .tail _ (.head _))
    simp only [List.cons_append, List.nil_append] at N2
    replace F2 : Fr g1 L1 s₁.heap _ := F2
    replace N2 : News g1 L1 s₁.heap _ := N2
    clear hr9 F9 N9
    have hlen : ys.length = i := hit.len
    k_steps
    · rename IntsAre _ (List.map _ (rangeKs _ _)) => hI9
      rename News _ _ _ _ => N9
      rename Fr _ _ _ _ => F9
      rename isSoft _ _ _ _ _ = true => hS9
      obtain ⟨ho1, ho2, ho4, ho3⟩ := ‹_ ∧ _ ∧ _ ∧ LCg.Off1 _ (rest ++ own)›
      simp only [List.push_toArray] at N9
      refine TurnC.pair F9 N9 ⟨_, by assumption⟩ ⟨_, by assumption⟩ ho1 ho2 ho4 ho3 hit ?_ (fun z hz => ?_)
      · rw [ranges (n := wd) (by omega)] at hI9
        unfold dueRow; rw [if_pos hS9]
        simp only [min_if] at hI9; exact hI9
      have h3 : z ≠ Str.ofString "y" := by rintro rfl; exact absurd hz (by decide)
      simp only [if_neg h3, hz]; rfl
    · rename IntsAre _ (List.map _ (rangeKs _ _)) => hI9
      rename News _ _ _ _ => N9
      rename Fr _ _ _ _ => F9
      rename isSoft _ _ _ _ _ = false => hS9
      obtain ⟨ho1, ho2, ho4, ho3⟩ := ‹_ ∧ _ ∧ _ ∧ LCg.Off1 _ (rest ++ own)›
      simp only [List.push_toArray] at N9
      refine TurnC.pair F9 N9 ⟨_, by assumption⟩ ⟨_, by assumption⟩ ho1 ho2 ho4 ho3 hit ?_ (fun z hz => ?_)
      · rw [ranges (n := wd) (by omega)] at hI9
        unfold dueRow; rw [if_neg (by rw [hS9]; decide)]
        exact hI9
      have h3 : z ≠ Str.ofString "y" := by rintro rfl; exact absurd hz (by decide)
      simp only [if_neg h3, hz]; rfl
  · intro ys k rest c u h tk hit hb hc hD F1 N1
    clear hr9 F9 N9
    replace F1 : Fr g1 L1 h _ := F1
    replace N1 : News g1 L1 h _ := N1
    simp only [List.cons_append, List.nil_append] at N1
    k_steps
    rename News h₀ L _ _ => N9
    obtain ⟨tl, N8, hl8, hP8⟩ := hit.rows (news := news) (Cs := [(L1 + 1 + 1 + 1 + 1 + 1 + 1 + 1, c.1), (L1 + 1 + 1 + 1 + 1 + 1 + 1, c.2)]) N9 (fun p hp => .tail _ (.tail _ (.tail _ (.tail _ (.tail _ hp))))) hD
    exact hret _ tl _ _ (by assumption) N8 hl8 hP8
theorem off_Q : True := by w_top off; trivial
local macro_rules | `(tactic| walk_at "call ref") => `(tactic| (k_here; ktr_call (due_spec _ _ _ _ _ _ _ _ _ _ _ _ _ _ _ _ ?h1 ?h2 ?h3 ?h4 ?p1 ?p2 ?p3 ?e0 ?e1 ?k0 ?k1 ?g0 ?g1 ?hw ?hh) 192; (case h1 => first | assumption | exact RowsIn.mono (by assumption) (by kcj_all)); (case h2 => assumption); (case h3 => omega); (case h4 => omega); (case p1 => first | assumption | exact PairIn.mono (by assumption) (by kcj_all) | k_dflt (exact ⟨_, _, _, by k_mem⟩)); (case p2 => first | assumption | exact PairIn.mono (by assumption) (by kcj_all) | k_dflt (exact ⟨_, _, _, by k_mem⟩)); (case p3 => first | assumption | exact PairIn.mono (by assumption) (by kcj_all) | k_dflt (exact ⟨_, _, _, by k_mem⟩)); (case e0 => omega); (case e1 => omega); (case k0 => omega); (case k1 => omega); (case g0 => omega); (case g1 => omega); (case hw => omega); (case hh => omega); intro r' tl' h' tk' F' N' hl' hp'; have hq' := hp'; obtain ⟨a', vs', n', e1', hm', hd'⟩ := RowsIn.open hp'; subst e1'; (try dsimp only); (try k_sweep); (try k_fold)))
/-- as SpecAt, where the caller's ground bears something -/
noncomputable def SpecIf (Pre : Heap → Prop) (w : World) (f : Addr) (d u : Nat) (news : Led) (vs : List Value) (Post : Value → Led → Prop) : Prop :=
  ∀ (p : Program) (loose : List Str) (mean : ExcName → Option Value) (mg mb : Str → Option Value) (dp un : Nat) (gd : Option (List Code)) (cn : Str) (cs : Scope) (a : Addr) (ccd : Value) (cl : List (Str × Addr)) (outer : List Env) (A₀ : Around) (base h₀ : Heap) (L : Addr) (m : Str → Option Value) (s : Shared)
    (Q E : Value → Shared → Prop),
    Below A₀ base outer h₀ → Fr h₀ L s.heap m → (hd.heap_1 w.params).In h₀ → News h₀ L s.heap news → Top p loose mean mg mb h₀ → cs.kind = .function → dp + d < recursionLimit → un + u < cLine → Pre h₀ →
    (∀ r tl h' tk', Fr h₀ L h' m → News h₀ L h' (tl ++ news) → (∀ q ∈ news, ∀ x ∈ tl, @Ne Nat q.1 x.1) → Post r tl → Q r { s with heap := h', toks := tk' }) →
    wpAny (model PR w) (ktrTop dp un gd cn cs L a ccd cl outer) (call (.ref f) vs) Q E s
theorem SpecIf.use {Pre : Heap → Prop} {w : World} {f : Addr} {d u : Nat} {news : Led} {vs : List Value} {Post : Value → Led → Prop} (C : SpecIf Pre w f d u news vs Post)
    {p : Program} {loose : List Str} {mean : ExcName → Option Value} {mg mb : Str → Option Value} {dp un : Nat} {gd : Option (List Code)} {cn : Str} {cs : Scope} {a : Addr} {ccd : Value} {cl : List (Str × Addr)} {outer : List Env} {A₀ : Around} {base h₀ : Heap} {L : Addr} {m : Str → Option Value} {s : Shared}
    {Q E : Value → Shared → Prop} (B : Below A₀ base outer h₀) (F : Fr h₀ L s.heap m) (X : (hd.heap_1 w.params).In h₀) (N : News h₀ L s.heap news) (T : Top p loose mean mg mb h₀) (hk : cs.kind = .function) (hd : dp + d < recursionLimit) (hu : un + u < cLine) (hp : Pre h₀)
    (ret : ∀ r tl h' tk', Fr h₀ L h' m → News h₀ L h' (tl ++ news) → (∀ q ∈ news, ∀ x ∈ tl, @Ne Nat q.1 x.1) → Post r tl → Q r { s with heap := h', toks := tk' }) :
    wpAny (model PR w) (ktrTop dp un gd cn cs L a ccd cl outer) (call (.ref f) vs) Q E s := C _ _ _ _ _ _ _ _ _ _ _ _ _ _ _ _ _ _ _ _ _ _ B F X N T hk hd hu hp ret
theorem pool_lo (x : Int) {c : Prop} [Decidable c] : 0 ≤ (if -1 - x > x then -1 - x else x) * if c then 1 else 0 := by
  have h : 0 ≤ (if -1 - x > x then -1 - x else x) := by split <;> omega
  by_cases hc : c
  · rw [if_pos hc, Int.mul_one]; exact h
  · rw [if_neg hc, Int.mul_zero]; exact Int.le_refl _
theorem pool_ok (x y : Int) {c : Prop} [Decidable c] {ta tb : Tok} {n : Nat} : SrcOk (listOf #[.int ((if -1 - x > x then -1 - x else x) * if c then 1 else 0) ta, .int (y.fmod 2147483647) tb] n) :=
  ⟨_, _, _, _, _, rfl, pool_lo x, Int.fmod_nonneg_of_pos _ (by decide), Int.fmod_lt_of_pos _ (by decide)⟩
set_option maxRecDepth 100000 in
set_option maxHeartbeats 4000000 in
theorem pool_spec (w : World) (sc : Addr) (vs : List Value) (ns : List Int) (t : Tok) (news : Led) (hi : IntsAre vs ns) (hn : ns.length < 1048576) :
    SpecIf (fun h => h.IsList sc vs.toArray) w 152 4 64 news [.ref sc, .int 0 t] (fun r tl => ∃ a o, r = .ref a ∧ tl = [(a, o)] ∧ SrcOk o) := by
  unfold SpecIf
  intro p loose mean mg mb dp un gd cn cs a ccd cl outer A₀ base h₀ L m s Q E B F X N T hk hd hu hpre hret
  have hlv : vs.length = ns.length := hi.length
  refine wpAny_call ?_
  k_dflt ktr_enter
  rename Fr h₀ L _ m => FG9
  have hpre1 := hpre.at fun o e => FG9.keep _ o e
  k_steps
  all_goals (
    rename News h₀ L _ _ => N9
    have l9 := ‹∀ q ∈ news, q.1 < _›
    exact hret _ [_] _ _ (by assumption) N9 (fun q hq z hz => by rw [List.mem_singleton.mp hz]; exact Nat.ne_of_lt (l9 q hq)) ⟨_, _, rfl, rfl, pool_ok _ _⟩)
local macro_rules | `(tactic| walk_at "call ref") => `(tactic| (k_here; (with_reducible show wpAny _ _ (call (Value.ref 152) _) _ _ _); k_dflt (refine' SpecIf.use (pool_spec _ _ _ _ _ _ ?h1 ?h2) ?kB ?kF ?kX ?kN ?kT ?kk ?kd ?ku ?kp ?_); (case kB => k_asm); (case kF => k_asm); (case kX => k_asm); (case kN => k_asm); (case kT => k_asm); (case kk => first | exact rfl | assumption); (case kd => ktr_room); (case ku => ktr_units); (case kp => assumption); (case h1 => assumption); (case h2 => omega); intro r' tl' h' tk' F' N' hl' hp'; obtain ⟨a', o', e1', e2', hO'⟩ := hp'; subst e1'; subst e2'; (replace hl' := off1_of hl'); (simp only [LCg.Off1, and_true] at hl'); (try simp only [List.cons_append, List.nil_append] at N'); (try dsimp only); (try k_sweep); (try k_fold)))
theorem off_R3 : True := by w_top off; trivial
/-- an own class of exceptions, whose bases may be own classes -/
noncomputable def excIn (K : Frag) (C : Addr) (bm : List Value) (nid : String) : Bool := match K.lookup C with
  | some ⟨.type "type", _, .cls cd, sl⟩ => (match cd.mro, sl.toList with
    | .ref C' :: bm', [_, _, _, _, some (.builtin n), _] => C' == C && !cd.hasDel && cd.hasDict && bm' == bm && n == nid
    | _, _ => false)
  | _ => false
theorem exc_cls {K : Frag} {h : Heap} {C : Addr} {bm : List Value} {nid : String} (X : K.In h) (q : excIn K C bm nid = true) : ∃ nm qn N bs sn sub ab col dd k0 k1 k2 k3 k5,
    h.get? C = some (excClassObj nm qn C N bs bm true sn sub ab col dd k0 k1 k2 k3 k5 nid) := by
  unfold excIn at q
  split at q
  · rename_i dd cd sl ho
    split at q
    · rename_i C' bm' k0 k1 k2 k3 n k5 hm hs
      simp only [Bool.and_eq_true, beq_iff_eq, Bool.not_eq_true'] at q
      obtain ⟨⟨⟨⟨rfl, hdel⟩, hdc⟩, rfl⟩, rfl⟩ := q
      obtain ⟨nm, bs, mro, ns, qn, hd, sn, sub, ab, col, del⟩ := cd
      dsimp only at hm hdel hdc
      subst hm hdel hdc
      have hsl : sl = #[k0, k1, k2, k3, some (.builtin n), k5] := by
        obtain ⟨l⟩ := sl
        simp only at hs
        rw [hs]
      subst hsl
      exact ⟨nm, qn, ns, bs, sn, sub, ab, col, dd, k0, k1, k2, k3, k5, X _ _ ho⟩
    · cases q
  · cases q
section
variable {M : Model} {A : Around} {E : Value → Shared → Prop} {h : Heap} {g : Array GenState} {d : Drawn} {t : Nat} {os : OsState}
variable {nm q : Str} {C N : Addr} {bs bm bm0 : List Value} {hdct : Bool} {sn : List Str} {sub : List Value} {ab : Bool} {col : Option Bool} {dd : Option Addr} {k0 k1 k2 k3 k5 : Option Value} {B newId initId : String}
theorem new_check2 (F : ExcBaseFacts B newId initId bm0) (hcont : (Value.ref C :: bm).contains (.type B) = true) {rest : List Value} {Q : Unit → Shared → Prop} (hC : h.get? C = some (excClassObj nm q C N bs bm hdct sn sub ab col dd k0 k1 k2 k3 k5 newId))
    (hq : Q () ⟨h, g, d, t, os⟩) : wpAny M A (checkBuiltinCall newId ⟨.ref C :: rest, []⟩) Q E ⟨h, g, d, t, os⟩ := by
  have hstar := F.noStar
  simp only [checkBuiltinCall, F.newKind, F.newSplit, F.newRow]
  repeat (first | refine wpAny_loadPart_at hC ?_ | (refine wpAny_isSubtype_exc hC ?_; rw [hcont]) | refine wpAny_staticBase_exc hC ?_ | refine wpAny_madeBy_exc hC ?_ | simp only [bne_self_eq_false, Bool.false_eq_true, if_false] | wp_step)
  exact hq
theorem init_check2 (F : ExcBaseFacts B newId initId bm0) (hcB : (Value.ref C :: bm).contains (.type B) = true) {e : Addr} {oe : Obj} {rest : List Value} {Q : Unit → Shared → Prop}
    (hC : h.get? C = some (excClassObj nm q C N bs bm hdct sn sub ab col dd k0 k1 k2 k3 k5 newId)) (he : h.get? e = some oe) (hcls : oe.cls = .ref C) (hq : Q () ⟨h, g, d, t, os⟩) :
    wpAny M A (checkBuiltinCall initId ⟨.ref e :: rest, []⟩) Q E ⟨h, g, d, t, os⟩ := by
  have hshort := F.noStar
  simp only [checkBuiltinCall, F.initKind, F.initSplit, F.initRow]
  repeat (first | (with_reducible refine wpAny_loadPart_at he ?_; rw [hcls]) | with_reducible refine wpAny_loadPart_at hC ?_ | (with_reducible refine wpAny_isSubtype_exc hC ?_; rw [hcB]) | wp_step)
  refine wpAny_onRaise ?_
  rw [show ∀ (a b : String) (n : Nat), Bind.check ⟨.positional, "*", B, .self, [⟨"args", .varPos, false⟩]⟩ a b n (List.map (fun x => x.fst) ({ pos := Value.ref e :: rest } : Args).kw) = pure () from
    fun a b n => check_star_args _ _ _ _ _ _]
  exact wpAny_pure hq
end
section
variable {prog : Program} {w : World} {A : Around} {R : Result → Shared → Prop} {E : Value → Shared → Prop} {h : Heap} {g : Array GenState} {d : Drawn} {t : Nat} {os : OsState}
variable {nm q : Str} {C N : Addr} {bs bm bm0 : List Value} {hdct : Bool} {sn : List Str} {sub : List Value} {ab : Bool} {col : Option Bool} {dd : Option Addr} {k0 k1 k2 k3 k5 : Option Value} {B newId initId : String}
theorem new_code2 (F : ExcBaseFacts B newId initId bm0) (hcB : (Value.ref C :: bm).contains (.type B) = true) (hcA : (Value.ref C :: bm).contains (.type "AttributeError") = false) (hcN : (Value.ref C :: bm).contains (.type "NameError") = false)
    {rest : List Value} (hC : h.get? C = some (excClassObj nm q C N bs bm hdct sn sub ab col dd k0 k1 k2 k3 k5 newId))
    (hq : R (.ok (.ret (.ref (h.objs.size + 1)))) ⟨(h.push { cls := .type "tuple", data := .seq rest.toArray }).push
      { cls := .ref C, data := .fields #[.ref h.objs.size, .none, .none, .none, .bool false, .none] }, g, d, t, os⟩) (hrest : rest.length ≤ sizeLine) :
    codeAny (model prog w) A (.builtin newId ⟨.ref C :: rest, []⟩) R ⟨h, g, d, t, os⟩ := by
  have hends := F.ends
  refine codeAny_builtinAt F.entry ?_
  unfold Builtin.«BaseException.__new__»
  refine PySem.wpAt_bind ?_
  show PySem.wpAt _ _ _ (stack >>= _) _ _ _
  refine PySem.wpAt_bind (PySem.wpAt_stack fun p below => PySem.wpAt_of_wpAny ?_)
  wp_walk
  refine PySem.wpAt_of_wpAny ?_
  rw [F.owner]
  repeat (first | with_reducible refine wpAny_madeHere_exc F.canon hC ?_ | with_reducible refine wpAny_loadPart_at hC ?_ | (with_reducible refine wpAny_isSubtype_exc hC ?_; first | rw [hcB] | rw [hcA] | rw [hcN]) | wp_step)
  show R _ _
  rw [Heap.size_push]
  exact hq
noncomputable abbrev excO (C : Addr) (t : Addr) : Obj := { cls := .ref C, data := .fields #[.ref t, .none, .none, .none, .bool false, .none] }
noncomputable abbrev tupO (vs : List Value) : Obj := { cls := .type "tuple", data := .seq vs.toArray }
theorem typecall2 (F : ExcBaseFacts B newId initId bm0) (hcB : (Value.ref C :: bm).contains (.type B) = true) (hcA : (Value.ref C :: bm).contains (.type "AttributeError") = false) (hcN : (Value.ref C :: bm).contains (.type "NameError") = false)
    {rest : List Value} {fI : Addr} {Q : Fin → Shared → Prop}
    (hC : h.get? C = some (excClassObj nm q C N bs bm hdct sn sub ab col dd k0 k1 k2 k3 k5 newId)) (hi : Looks (model prog w) h (typeLookup (.ref C) "__init__") (some (.ref fI))) (hb : ∀ self, Looks (model prog w) h (bindSpecial (.ref fI) self) (.ref fI, [self]))
    (hq : codeAny (model prog w) A (.call (.ref fI) ⟨.ref (h.objs.size + 1) :: rest, []⟩) (fun r s' => match r with | .ok (.ret v) => v = .none ∧ Q (.done (.ret (.ref (h.objs.size + 1)))) s' | .ok _ => False | .error e => E e s')
      ⟨(h.push (tupO rest)).push (excO C h.objs.size), g, d, t, os⟩) (hrest : rest.length ≤ sizeLine) :
    wpAny (model prog w) A (Builtin.«type.__call__» ⟨.ref C :: rest, []⟩) Q E ⟨h, g, d, t, os⟩ := by
  repeat (first | with_reducible refine wpAny_loadPart_at hC ?_ | with_reducible refine wpAny_madeBy_exc hC ?_ | wp_step)
  refine codeAny_call_builtin_code (Code.quiet_builtin _ F.quiet) (new_check2 F hcB hC ?_)
  refine new_code2 F hcB hcA hcN hC ?_ hrest
  show wpAny _ _ _ _ _ _
  have k : ∀ b o, h.get? b = some o → ((h.push (tupO rest)).push (excO C h.objs.size)).get? b = some o := fun b o e => Heap.get?_push_of_some _ (Heap.get?_push_of_some _ e)
  have hC₁ := k _ _ hC
  have hget : ((h.push (tupO rest)).push (excO C h.objs.size)).get? (h.objs.size + 1) = some (excO C h.objs.size) := by heap_get
  have hcC : (Value.ref C :: bm).contains (.ref C) = true := by simp
  unfold isInstance
  repeat (first | with_reducible refine wpAny_loadPart_at hget ?_ | (with_reducible refine wpAny_isSubtype_exc hC₁ ?_; rw [hcC]) | wp_step)
  show wpAny _ _ (typeLookup (.ref C) _) _ _ _
  refine (hi.keeps k).here ?_
  refine wpAny_holding (wpAny_bind ((hb _).keeps k |>.here ?_))
  refine wpAny_bind (wpAny_call (codeAny_mono hq fun r s' z => ?_))
  rcases r with e | (v | _ | _ | _) <;> first | exact z | exact z.elim | skip
  obtain ⟨rfl, z⟩ := z
  wp_walk
  exact z
theorem excNew_K {K : Frag} {s : Shared} {h₀ : Heap} {L : Addr} {m : Str → Option Value} {news : Led} {rest : List Value} {fI : Addr} {Q : Value → Shared → Prop} (FB : ExcBaseFacts B newId initId bm0)
    (F : Fr h₀ L s.heap m) (N : News h₀ L s.heap news) (X : K.In h₀) (he : excIn K C bm newId = true)
    (hcB : (Value.ref C :: bm).contains (.type B) = true) (hcA : (Value.ref C :: bm).contains (.type "AttributeError") = false) (hcN : (Value.ref C :: bm).contains (.type "NameError") = false)
    (hi : findIn K (.ref C) "__init__" = some (some (.ref fI))) (hf : typeIn K (.ref fI) = some (.type "function")) (hrest : rest.length ≤ sizeLine)
    (h : ∀ e t h', Fr h₀ L h' m → News h₀ L h' ((e, excO C t) :: (t, tupO rest) :: news) → @Ne Nat t e → (∀ q ∈ news, @Ne Nat q.1 t ∧ @Ne Nat q.1 e) → 
      codeAny (model prog w) (A.under (.builtin "type.__call__" ⟨.ref C :: rest, []⟩)) (.call (.ref fI) ⟨.ref e :: rest, []⟩) (InitBack e fun r s' => match r with | .ok (.ret v) => Q v s' | .ok _ => False | .error e => E e s') { s with heap := h' }) :
    wpAny (model prog w) A (call (.ref C) rest) Q E s := by
  obtain ⟨hh, g, d, t, os⟩ := s
  have Xs : K.In hh := X.keeps F.keep
  obtain ⟨nm, qn, Nn, bs, sn, sub, ab, col, dd, k0, k1, k2, k3, k5, hC⟩ := exc_cls Xs he
  have f1 := tc_lookup
  have f2 := tc_bind (.ref C)
  have hT : (⟨hh, g, d, t, os⟩ : Shared).TypeIs (.ref C) "type" := ⟨_, hC, rfl⟩
  refine wpAny_call (codeAny_of_tree ?_)
  show wpAny _ _ (callAny (.ref C) _) _ _ _
  repeat (any_goals (first | assumption | with_reducible refine wpAny_loadPart_at hC ?_ | wp_step))
  refine ⟨rfl, ?_⟩
  have N' := (N.push F (tupO rest)).push (F.push _) (excO C hh.objs.size)
  rw [Heap.size_push] at N'
  refine codeAny_call_builtin_at (Code.quiet_builtin _ (by decide +kernel)) entry_typeCall (wpAny_check_type_call_sub hC (typecall2 FB hcB hcA hcN hC (looks_findIn Xs hi) (fun self => bind_fn Xs self hf) (codeAny_mono (h _ hh.objs.size _ ((F.push _).push _) N' ?_ ?_) fun r s' z => ?_) hrest))
  · exact Nat.ne_of_lt (Nat.lt_succ_self _)
  · intro q hq
    have := Heap.lt_size (N q hq).1
    exact ⟨Nat.ne_of_lt this, Nat.ne_of_lt (Nat.lt_succ_of_lt this)⟩
  · rcases r with e | (v | _ | _ | _) <;> exact z
end
theorem off_R4 : True := by w_top off; trivial
theorem led_swap {a b : Addr × Obj} {l : Led} : ∀ q ∈ a :: b :: l, q ∈ b :: a :: l := fun q hq => by
  rcases List.mem_cons.mp hq with rfl | hq
  · exact .tail _ (.head _)
  · rcases List.mem_cons.mp hq with rfl | hq
    · exact .head _
    · exact .tail _ (.tail _ hq)
section
open Builtin Builtin.ObjectAttr
variable {prog : Program} {w : World} {A : Around} {E : Value → Shared → Prop} {K : Frag} {s : Shared} {h₀ : Heap} {L : Addr} {m : Str → Option Value} {news : Led}
variable {C D : Addr} {bm bm0 : List Value} {B newId initId sa owner : String}
/-- `Exception.__init__` on it: the args anew -/
theorem excInit_K (FB : ExcBaseFacts B newId initId bm0) (hcB : (Value.ref C :: bm).contains (.type B) = true) (X : K.In h₀) (he : excIn K C bm newId = true) {e t : Addr} {rest : List Value} {Q : Value → Shared → Prop}
    (F : Fr h₀ L s.heap m) (N : News h₀ L s.heap ((e, excO C t) :: news)) (h2 : ∀ q ∈ news, q.1 ≠ e) (hrest : rest.length ≤ sizeLine)
    (h : ∀ t' h', Fr h₀ L h' m → News h₀ L h' ((e, excO C t') :: (t', tupO rest) :: news) → (∀ q ∈ ((t', tupO rest) :: news : Led), q.1 ≠ e) → (∀ q ∈ news, @Ne Nat q.1 t') → Q .none { s with heap := h' }) :
    wpAny (model prog w) A (call (.builtin initId) (.ref e :: rest)) Q E s := by
  obtain ⟨hh, g, d, tk, os⟩ := s
  have Xs : K.In hh := X.keeps F.keep
  obtain ⟨nm, qn, Nn, bs, sn, sub, ab, col, dd, k0, k1, k2, k3, k5, hC⟩ := exc_cls Xs he
  have hx := (N _ (.head _)).1
  refine wpAny_call (codeAny_call_builtin FB.init.plain FB.initEntry (init_check2 FB hcB hC hx rfl ?_))
  have N1 := N.push F (tupO rest)
  have hne : hh.objs.size ≠ e := Nat.ne_of_gt (Heap.lt_size hx)
  obtain ⟨U1, U2⟩ := news_upd (f := Obj.mapFields (·.setIfInBounds 0 (Value.ref hh.objs.size))) (pre := [(hh.objs.size, tupO rest)]) (d := e) (o := excO C t) (o' := excO C hh.objs.size) (post := news) (F.push (tupO rest)) N1 (fun p hp => by have z := List.mem_singleton.mp hp; subst z; exact hne) h2 rfl rfl
  wp_walk
  refine h _ _ U1 (fun q hq => U2 q (led_swap q hq)) (fun q hq => ?_) fun q hq => Nat.ne_of_lt (Heap.lt_size (N q (.tail _ hq)).1)
  rcases List.mem_cons.mp hq with rfl | hq
  · exact hne
  · exact h2 q hq
/-- an attribute is set on it: the dict is made -/
theorem excSet_K (SF : StoreFacts B bm0 "object.__setattr__" "object") (X : K.In h₀) (he : excIn K C (.ref D :: bm0) newId = true) {x : Addr} {ox : Obj} {vs : Array Value} {name : Str} {v : Value} {Q : Unit → Shared → Prop}
    (F : Fr h₀ L s.heap m) (N : News h₀ L s.heap ((x, ox) :: news)) (h2 : ∀ q ∈ news, q.1 ≠ x) (hcls : ox.cls = .ref C) (hd : ox.data = .fields vs) (hdn : ox.dict = none)
    (hs : findIn K (.ref C) "__setattr__" = some (some (.builtin "object.__setattr__"))) (ht : takerIn K C name = some none)
    (h : ∀ d tk h', Fr h₀ L h' m → News h₀ L h' ((x, { ox with dict := some d }) :: (d, Obj.putName name (PyData.keyHash w.params name) (.str name tk) v emptyDict) :: news) → @Ne Nat d x → (∀ q ∈ news, @Ne Nat q.1 d) → Q () { s with heap := h', toks := s.toks + 2 }) :
    wpAny (model prog w) A (setAttr (.ref x) name v) Q E s := by
  obtain ⟨hh, g, d, tk, os⟩ := s
  have Xs : K.In hh := X.keeps F.keep
  obtain ⟨nm, qn, Nn, bs, sn, sub, ab, col, dd, k0, k1, k2, k3, k5, hC⟩ := exc_cls Xs he
  have hx := (N _ (.head _)).1
  obtain ⟨oc, odi, oda, osl⟩ := ox
  dsimp only at hcls hd hdn
  subst hcls hd hdn
  have I : InstAt hh x ⟨.ref C, none, .fields vs, osl⟩ C none := ⟨hx, rfl, rfl, trivial⟩
  have L0 := I.type (M := model prog w)
  have hcO : (Value.ref C :: .ref D :: bm0).contains (.type "object") = true := by rw [List.contains_cons, List.contains_cons, SF.hasOwner, Bool.or_true, Bool.or_true]
  refine set_plain Xs I hs ?_
  have hTO : Looks (model prog w) hh (isInstance (.ref x) (.type "object")) true := L0.andThen (fun A' Q' E' s' k z => by
    obtain ⟨h', g', d', t', os'⟩ := s'
    exact wpAny_isSubtype_exc (k _ _ hC) (by rw [hcO]; exact z))
  refine codeAny_call_builtin SF.slot.plain SF.entry (@check_slot (model prog w) _ _ _ "object.__setattr__" "object" "__setattr__" (.ref x) [.str name tk, v] [] _ SF.kind SF.split hTO (SF.args (.ref x) (.str name tk) v) ?_)
  obtain ⟨attr, ha, hr⟩ := Option.bind_eq_some_iff.mp ht
  have L3 : Looks (model prog w) hh (storeTaker? attr) none := by
    cases attr with
    | none => exact .now
    | some a =>
      obtain ⟨b, hb, hr'⟩ := Option.map_eq_some_iff.mp hr
      refine (looks_takesIn Xs hb).andThen ?_
      cases b
      · exact .now
      · cases hr'
  rw [osa_eq, refuse_eq]
  refine wpAny_bind (wpAny_bind (L0.here (wpAny_bind (wpAny_mroOf_exc hC ?_))))
  rw [refuseLoop_ref, refuseLoop_ref, SF.passes]
  refine wpAny_pure (wpAny_bind (L0.here (wpAny_bind ((looks_findIn Xs ha).here (wpAny_bind (L3.here ?_))))))
  dsimp only
  have hne : hh.objs.size ≠ x := Nat.ne_of_gt (Heap.lt_size hx)
  have N1 := N.push F emptyDict
  obtain ⟨U1, U2⟩ := news_upd (f := fun o => { o with dict := some hh.objs.size }) (pre := [(hh.objs.size, emptyDict)]) (d := x) (o := ⟨.ref C, none, .fields vs, osl⟩) (o' := ⟨.ref C, some hh.objs.size, .fields vs, osl⟩) (post := news) (F.push emptyDict) N1 (fun p hp => by have z := List.mem_singleton.mp hp; subst z; exact hne) h2 rfl rfl
  have hx₁ : (hh.push emptyDict).get? x = some ⟨.ref C, none, .fields vs, osl⟩ := Heap.get?_push_of_some _ hx
  have hpost : ∀ p ∈ ((x, (⟨.ref C, some hh.objs.size, .fields vs, osl⟩ : Obj)) :: news : Led), p.1 ≠ hh.objs.size := fun p hp => by
    rcases List.mem_cons.mp hp with rfl | hp
    · exact Ne.symm hne
    · exact Nat.ne_of_lt (Heap.lt_size (N p (.tail _ hp)).1)
  obtain ⟨V1, V2⟩ := news_upd (f := Obj.putName name (PyData.keyHash w.params name) (.str name (tk + 1)) v) (pre := []) (d := hh.objs.size) (o := emptyDict) (o' := Obj.putName name (PyData.keyHash w.params name) (.str name (tk + 1)) v emptyDict) U1 U2 (fun p hp => by cases hp) hpost rfl rfl
  unfold storeInOwnDict
  refine wpAny_bind (wpAny_pure (wpAny_bind ?_))
  refine wpAny_bind ?_
  refine wpAny_loadPart hx (wpAny_bind ((show Looks (model prog w) hh (classData C) _ from (Looks.ld (part := none) hC).andThen .now).here ?_))
  dsimp only
  rw [if_neg (by simp)]
  rw [if_neg (by simp [typeHasDict])]
  refine wpAny_bind (wpAny_alloc' ?_)
  refine wpAny_bind (wpAny_update' hx₁ ?_)
  refine wpAny_pure ?_
  show wpAny _ _ (storeInDict hh.objs.size (.str name tk) name v) _ _ _
  unfold storeInDict newKeyGuard
  refine wpAny_bind (wpAny_pure (wpAny_bind ?_))
  unfold nsSet
  have D0 := (U2 _ (.head _)).1
  have D1 := (V2 _ (.head _)).1
  refine wpAny_bind (wpAny_bind (wpAny_askSetting (wpAny_pure (wpAny_bind (wpAny_mkText (wpAny_bind (wpAny_loadPart D0 ?_)))))))
  dsimp only
  rw [aRefKeyMayBeTheName_at, show (!(#[] : Array DictEntry).any (·.key.isStr name) && (#[] : Array DictEntry).any (·.refKey)) = false from by simp]
  refine wpAny_updatePart D0 ?_
  refine wpAny_bind (wpAny_lookBehind D1 (pastItsLine_dict (show 1 ≤ sizeLine + 1 by rw [sizeLine_eq]; omega)) ?_)
  exact wpAny_pure (h _ _ _ V1 (fun q hq => V2 q (led_swap q hq)) hne fun q hq => Nat.ne_of_lt (Heap.lt_size (N q (.tail _ hq)).1))
end
theorem off_R5 : True := by w_top off; trivial
section
open Builtin Builtin.ObjectAttr
variable {prog : Program} {w : World} {A : Around} {E : Value → Shared → Prop} {K : Frag} {s : Shared}
variable {C : Addr} {bm bm0 : List Value} {B newId : String}
/-- an attribute out of its dict -/
theorem excGet_K (FB : ExcAttrBase B bm0) (X : K.In s.heap) (he : excIn K C bm newId = true) (hcB : (Value.ref C :: bm).contains (.type "BaseException") = true) {x : Addr} {ox : Obj} {od : Option Obj} {name : Str} {v : Value} {expr : Bool} {Q : Value → Shared → Prop}
    (I : InstAt s.heap x ox C od) (hga : findIn K (.ref C) "__getattribute__" = some (some (.builtin "BaseException.__getattribute__"))) (hgn : findIn K (.ref C) "__getattr__" = some none)
    (hf : findObj K C od name = some (.value v)) (hh : handedIn v = true) (h : Q v { s with toks := s.toks + 1 }) : wpAny (model prog w) A (getAttr (.ref x) name expr) Q E s := by
  obtain ⟨hp, g, d, t, os⟩ := s
  obtain ⟨nm, qn, Nn, bs, sn, sub, ab, col, dd, k0, k1, k2, k3, k5, hC⟩ := exc_cls X he
  have L0 := I.type (M := model prog w)
  have L1 := looks_find (M := model prog w) X I hf
  have L2 := looks_findIn (M := model prog w) X hga
  have L3 := looks_findIn (M := model prog w) X hgn
  have f3 := FB.ga.bind (.ref x)
  have hx0 : (expr && onTheHeap (Value.builtin "BaseException.__getattribute__")) = false := by cases expr <;> rfl
  have hx2 : (Value.builtin "BaseException.__getattribute__" == Value.builtin "object.__getattribute__") = false := by decide +kernel
  have hx1 : (onTheHeap (Value.ref C) && Value.builtin "BaseException.__getattribute__" == Value.builtin "object.__getattribute__") = false := by rw [hx2]; rfl
  have hk : builtinKind "BaseException.__getattribute__" = some .slot := by decide +kernel
  have hsplit : splitId "BaseException.__getattribute__" = some ("BaseException", "__getattribute__") := by decide +kernel
  have hTO : Looks (model prog w) hp (isInstance (.ref x) (.type "BaseException")) true := L0.andThen (fun A' Q' E' s' k z => by
    obtain ⟨h', g', d', t', os'⟩ := s'
    exact wpAny_isSubtype_exc (k _ _ hC) (by rw [hcB]; exact z))
  have CC : ∀ (tk : Tok) (R : Result → Shared → Prop) (s' : Shared) (A' : Around), s'.heap = hp → R (.ok (.ret v)) s' → codeAny (model prog w) A' (.call (.builtin "BaseException.__getattribute__") ⟨[.ref x, .str name tk], []⟩) R s' := by
    intro tk R s' A' e z
    obtain ⟨h', g', d', t', os'⟩ := s'
    have e : h' = hp := e
    subst e
    refine codeAny_call_builtin FB.ga.plain F.entry_bexc_ga (@check_slot (model prog w) _ _ _ "BaseException.__getattribute__" "BaseException" "__getattribute__" (.ref x) [.str name tk] [] _ hk hsplit hTO (F.args_bexc_ga _ _) ?_)
    unfold Builtin.«object.__getattribute__»
    refine wpAny_bind (wpAny_pure (wpAny_bind (wpAny_pure (wpAny_bind (L0.at (wpAny_bind (L1.at ?_)))))))
    exact wpAny_pure z
  have GB : ∀ (tk : Tok) (fill : Bool) (s' : Shared), s'.heap = hp → Q v s' → wpAny (model prog w) A (getAttrBy (.ref x) (.str name tk) fill expr) Q E s' := by
    intro tk fill s' e z
    obtain ⟨h', g', d', t', os'⟩ := s'
    have e : h' = hp := e
    subst e
    repeat (any_goals (first | assumption | with_reducible refine L0.at ?_ | with_reducible refine L2.at ?_ | with_reducible refine L3.at ?_ | wp_step))
    refine CC _ _ _ _ rfl ?_
    repeat (any_goals (first | assumption | wp_step))
    show wpAny _ _ (handedOut v) _ _ _
    rw [handedOut_of hh]
    exact wpAny_pure z
  unfold getAttr
  repeat (any_goals (first | assumption | with_reducible refine GB _ _ _ rfl ?_ | wp_step))
end
theorem off_R6 : True := by w_top off; trivial
section
variable {prog : Program} {w : World} {A : Around} {E : Value → Shared → Prop} {K : Frag} {s : Shared} {env : Env} {C D : Addr} {bm bmD : List Value} {newId newD : String}
/-- what `raise` finds: an exception of the class, and where it goes -/
noncomputable def RaiseGo (K : Frag) (C : Addr) (E : Value → Shared → Prop) (v : Value) (s₁ : Shared) : Prop :=
  ∃ e oe vs, v = .ref e ∧ K.In s₁.heap ∧ s₁.heap.get? e = some oe ∧ oe.cls = .ref C ∧ oe.data = .fields vs ∧ vs[1]? = some .none ∧ E (.ref e) s₁
theorem exec_raise {M : Model} {g₀ : Heap} {ce : PySem.Expr} {pos : Pos} {Q : Flow → Shared → Prop} (_ : K.In g₀) (he : excIn K C bm newId = true) (hcB : (Value.ref C :: bm).contains (.type "BaseException") = true) (hh : A.handled = none)
    (h : wpAny M A (eval ce env) (RaiseGo K C E) E s) : wpAny M A (exec (.Raise (some ce) none pos) env) Q E s := by
  rw [arm_exec_Raise]
  refine wpAny_bind (wpAny_standAt ?_)
  show wpAny M A (raiseStmt env (some (do let v ← eval ce env; standAt pos; pure v)) none) Q E s
  unfold raiseStmt
  refine wpAny_bind (wpAny_bind (wpAny_mono h (fun v s₁ h₁ => wpAny_bind (wpAny_standAt (wpAny_pure ?_))) fun _ _ x => x))
  obtain ⟨e, oe, vs, rfl, X, he', hcls, hda, h1, hE⟩ := h₁
  obtain ⟨hp, g, d, tk, os⟩ := s₁
  obtain ⟨nm, qn, Nn, bs, sn, sub, ab, col, dd, k0, k1, k2, k3, k5, hC⟩ := exc_cls X he
  obtain ⟨oc, odi, oda, osl⟩ := oe
  dsimp only at hcls hda
  subst hcls hda
  repeat (first | with_reducible refine wpAny_loadPart_at he' ?_ | with_reducible refine wpAny_loadPart_at hC ?_ | (with_reducible refine wpAny_isSubtype_exc hC ?_; rw [hcB]) | wp_step)
  rw [h1]
  refine wpAny_pure ?_
  rw [if_neg (by decide)]
  exact wpAny_pure (wpAny_raiseNew_none hh hE)
theorem exc_matches2 {M : Model} {h : Heap} {g : Array GenState} {d : Drawn} {t : Nat} {os : OsState} {e : Addr} {oe : Obj} {Q : Bool → Shared → Prop} (X : K.In h) (he : excIn K C bm newId = true) (hd : excIn K D bmD newD = true)
    (ho : h.get? e = some oe) (hcls : oe.cls = .ref C) (hbC : (Value.ref C :: bm).contains (.type "BaseException") = true) (hbD : (Value.ref D :: bmD).contains (.type "BaseException") = true) (hCD : (Value.ref C :: bm).contains (.ref D) = true)
    (hq : Q true ⟨h, g, d, t, os⟩) : wpAny M A (excMatches (.ref e) (.ref D)) Q E ⟨h, g, d, t, os⟩ := by
  obtain ⟨nm, qn, Nn, bs, sn, sub, ab, col, dd, k0, k1, k2, k3, k5, hC⟩ := exc_cls X he
  obtain ⟨nm', qn', Nn', bs', sn', sub', ab', col', dd', k0', k1', k2', k3', k5', hD⟩ := exc_cls X hd
  have f := tc_notTuple
  unfold excMatches
  repeat (first | (with_reducible refine wpAny_loadPart_at ho ?_; rw [hcls]) | with_reducible refine wpAny_loadPart_at hC ?_ | with_reducible refine wpAny_loadPart_at hD ?_ | (with_reducible refine wpAny_isSubtype_exc hC ?_; first | rw [hbC] | rw [hCD]) | (with_reducible refine wpAny_isSubtype_exc hD ?_; rw [hbD]) | wp_step)
  exact hq
end
section
variable {prog : Program} {w : World} {A₀ A : Around} {s : Shared} {base h₀ : Heap} {L : Addr} {m : Str → Option Value} {env : Env} {news : Led} {K : Frag} {p : Program} {loose : List Str} {mean : ExcName → Option Value} {mg mb : Str → Option Value}
    {R : Result → Shared → Prop} {name qual : Str} {params : Arguments} {body : List Stmt} {scope : Scope} {dV kV doc pm cdv ct oc : Value} {an od : Option Addr} {osl : Array (Option Value)} {f : Addr} {args : Args} {binds : List (Str × Value)}
theorem call_turn (B : Below A₀ base [] h₀) (F : Fr h₀ L s.heap m) (X₀ : K.In h₀) (N : News h₀ L s.heap news) (T : Top p loose mean mg mb h₀) (hA : A.frames = some [env]) (hf : env.frame = some L) (hke : env.scope.kind = .function)
    (ho : K.lookup f = some ⟨oc, od, .func (fnOf name qual params body scope dV kV doc pm an cdv ct), osl⟩) (hcd : codeIn K cdv qual = true) (hroom : A.depth < recursionLimit)
    (hbind : BindsTo s (fnOf name qual params body scope dV kV doc pm an cdv ct) args binds) (hloc : ∀ y ∈ binds, scope.names.lookup y.1 = some .local)
    (h : ∀ g L' h₁, Fr h₀ L g m → Fr g L' h₁ (fun y => binds.reverse.lookup y) → News g L' h₁ news → Below A base [env] g → K.In g → Top p loose mean mg mb g →
      wpAny (model prog w) (A.deeper (envOf qual scope L' f cdv)) (execs body (envOf qual scope L' f cdv))
        (fun fl s' => LeaveS0 ([env].filterMap (·.frame)) h₀ L m g R (match fl with | .ret v => v | _ => .none) s')
        (fun e s' => wpAny (model prog w) (A.deeper (envOf qual scope L' f cdv)) (leaving (envOf qual scope L' f cdv) e) (fun _ s'' => R (.error e) s'') (fun e' s'' => R (.error e') s'') s')
        { s with heap := h₁, toks := s.toks + binds.length })
    (hco : scope.isCoroutine = false) (hgen : scope.isGenerator = false) (hk : scope.kind = .function)
    (hcell : ∀ x ∈ scope.names, x.2 ≠ .cell) : codeAny (model prog w) A (.call (.ref f) args) R s := by
  have X := X₀.keeps F.keep
  obtain ⟨FG, BG, st, -⟩ := groundX (R := R) B F N hA hf hke
  obtain ⟨oL, es, ep, hL, hLd, hLk, hLf⟩ := F.ns
  have nL : L ∉ news.map (·.1) := fun q => by
    obtain ⟨p, hp, e⟩ := List.mem_map.mp q
    exact (N p hp).2.1 e
  have hLg := hideAll_get (news.map (·.1)) hL nL
  refine codeAny_call_def (fd := fnOf name qual params body scope dV kV doc pm an cdv ct) (body := body) (binds := binds) hroom (X _ _ ho) rfl (T.nolimit.keeps F.keep) (codeRec_of X hcd) rfl hbind hcell hloc (fun h₁ hns hk₁ => ?_) hco hgen hk
  refine wpAny_mono (h _ s.heap.objs.size h₁ FG ⟨hns, fun b o e => hk₁ b o (of_hideAll _ e), Nat.le_of_eq (hideAll_size _ _)⟩
    (fun p hp => ⟨hk₁ _ _ (N p hp).1, Nat.ne_of_lt (Heap.lt_size (N p hp).1), hideAll_none _ (List.mem_map_of_mem hp)⟩) BG (X₀.keeps st) (T.keeps st)) (fun fl s' hl => ?_) fun _ _ y => y
  obtain ⟨g', L', m', news', T', F', N', k⟩ := hl
  have nL₀ : h₀.get? L = none := kts_self F
  have hmem : ∀ b, b ∈ [env].filterMap (·.frame) → b = L := fun b hb => by
    obtain ⟨env', he, hb'⟩ := List.mem_filterMap.mp hb
    rw [List.mem_singleton.mp he] at hb'
    exact Option.some.inj (hb'.symm.trans hf)
  obtain ⟨sl, hs⟩ := T'.up hLg
  refine k ⟨⟨_, es, ep, F'.keep _ _ hs, hLd, hLk, hLf⟩, fun b o e => F'.keep b o (T'.other b o (st b o e) (fun q => by
    rw [hmem b q, nL₀] at e
    cases e)), F.above⟩ fun p hp => ⟨(N' p hp).1, fun q => ?_, ?_⟩
  · have := (N' p hp).2.2; rw [q, hs] at this; cases this
  · cases q : h₀.get? p.1 with
    | none => rfl
    | some o =>
      obtain ⟨sl', hs'⟩ := T'.up (st _ _ q)
      have := (N' p hp).2.2
      rw [hs'] at this
      cases this
end
theorem off_R7 : True := by w_top off; trivial
/-- an exception's object: its class, its dict -/
noncomputable def ExcD (C : Value) (d : Addr) (o : Obj) : Prop := o.cls = C ∧ o.dict = some d
theorem ExcD.map {C : Value} {d : Addr} {o : Obj} (h : ExcD C d o) (f : Array Value → Array Value) : ExcD C d (Obj.mapFields f o) := by
  obtain ⟨h1, h2⟩ := h
  refine ⟨(Obj.cls_mapFields _ _).trans h1, ?_⟩
  rw [← h2]
  obtain ⟨_, _, dt, _⟩ := o
  cases dt <;> rfl
/-- it bears a record of its way, whose own mark is fl -/
noncomputable def TrP (h base : Heap) (e : Addr) (C : Value) (d : Addr) (fl : Value) : Prop :=
  ∃ oe vs T oT ts, h.get? e = some oe ∧ ExcD C d oe ∧ oe.data = .fields vs ∧ vs[1]? = some (.ref T) ∧ base.get? T = none ∧ T ≠ e ∧ h.get? T = some oT ∧ oT.data = .fields ts ∧ ts[3]? = some fl
noncomputable def FlyP (base : Heap) (l : List Env) (e : Addr) (C : Value) (d : Addr) (fl : Value) (h : Heap) : Prop :=
  base.StaysIn h ∧ base.get? e = none ∧ h.FunFrames base l ∧ TrP h base e C d fl
section
variable {M : Model} {A : Around} {E : Value → Shared → Prop} {s : Shared} {base : Heap} {env : Env} {outer : List Env} {L e d : Addr} {C fl : Value} {Q : Unit → Shared → Prop}
theorem not_rec {h : Heap} {a b : Addr} {oa o : Obj} {vs : Array Value} (ha : h.get? a = some oa) (hd : oa.data = .fields vs) (hb : h.get? b = some o) (hn : ∀ vs, o.data ≠ .fields vs) : b ≠ a := fun q => by
  rw [q, ha] at hb; cases hb; exact hn _ hd
/-- a new record on the way -/
theorem entryP {oe : Obj} {vs : Array Value} {head : Value} {hadNext : Bool} (hfr : A.frames = some (env :: outer)) (hl : s.heap.FunFrames base (env :: outer)) (hf : env.frame = some L)
    (he : s.heap.get? e = some oe) (hkb : base.StaysIn s.heap) (hen : base.get? e = none) (hP : ExcD C d oe) (hd : oe.data = .fields vs) (hsz : 1 < vs.size)
    (h : ∀ h', FlyP base (env :: outer) e C d (rawInt L) h' → s.heap.UpToSlots h' → Q () { s with heap := h' }) :
    wpAny M A (do let a ← frameOf env; let pl ← entryPlaceOf L hadNext; let b ← EntryCells.newEntry head a .none (rawInt L) .none pl; setField (.ref e) 1 b) Q E s := by
  have hne : e ∉ (env :: outer).filterMap (·.frame) := fun hm => by
    obtain ⟨_, o, ho, hn⟩ := hl.mem hm
    exact not_rec he hd ho hn rfl
  refine wpAny_bind (wpAny_frameOf_fun hfr hl hf fun h₁ hs₁ => wpAny_bind (wpAny_entryPlaceOf fun pl hpl => ?_))
  unfold EntryCells.newEntry newFields
  refine wpAny_bind (wpAny_newObj_type ?_ (hpl.sizeOk5 _ _ _ _ _))
  generalize hoT : ({ cls := .type "traceback", dict := none, data := .fields ([head, .ref L, .none, rawInt L, .none] ++ (if pl.isEmpty then List.replicate 6 Value.none else pl)).toArray } : Obj) = oT
  have e1 : h₁.get? e = some oe := (hs₁.2.1 e hne).trans he
  have b1 : base.StaysIn h₁ := fun b o hb => (hs₁.2.1 b fun hm => by rw [(hl.mem hm).1] at hb; cases hb).trans (hkb b o hb)
  have e2 := Heap.get?_push_of_some oT e1
  refine wpAny_setField e2 hd hsz (h _ ?_ ?_)
  all_goals
    have keep : ∀ b o, b ≠ e → h₁.get? b = some o → ((h₁.push oT).update e (Obj.mapFields (·.setIfInBounds 1 (Value.ref h₁.objs.size)))).get? b = some o := fun b o hbe hb => by
      rw [Heap.get?_update_other _ _ (Ne.symm hbe)]; exact Heap.get?_push_of_some _ hb
  · have hTe : h₁.objs.size ≠ e := Nat.ne_of_gt (Heap.lt_size e1)
    have d3 := Obj.data_mapFields hd (·.setIfInBounds 1 (Value.ref h₁.objs.size))
    refine ⟨fun b o hb => keep b o (fun q => by rw [q, hen] at hb; cases hb) (b1 b o hb), hen, hl.of_keeps fun b o hb hn => ?_, _, _, h₁.objs.size, oT, _, Heap.get?_update_self _ e2 (Obj.isFreed_of_fields d3), hP.map _, d3, by simp [hsz], b1.fresh, hTe,
      (Heap.get?_update_other _ _ (Ne.symm hTe)).trans (Heap.get?_push_size h₁ (by rw [← hoT]; rfl)), by rw [← hoT], ?_⟩
    · obtain ⟨sl, hs⟩ := hs₁.2.2 b o hb
      exact ⟨_, keep b _ (not_rec he hd hb hn) hs, rfl⟩
    · first | (simp; done) | (rcases hpl with rfl | ⟨_, _, _, _, _, _, _, rfl⟩ <;> simp)
  · intro b o hb hn
    obtain ⟨sl, hs⟩ := hs₁.2.2 b o hb
    exact ⟨sl, keep b _ (not_rec he hd hb hn) hs⟩
/-- the first frame that it leaves -/
theorem noteP_first {oe : Obj} {vs : Array Value} (hfr : A.frames = some (env :: outer)) (hl : s.heap.FunFrames base (env :: outer)) (hf : env.frame = some L)
    (he : s.heap.get? e = some oe) (hkb : base.StaysIn s.heap) (hen : base.get? e = none) (hP : ExcD C d oe) (hd : oe.data = .fields vs) (h1 : vs[1]? = some .none)
    (h : ∀ h', FlyP base (env :: outer) e C d (rawInt L) h' → s.heap.UpToSlots h' → Q () { s with heap := h' }) : wpAny M A (noteFrame (.ref e) env) Q E s := by
  unfold noteFrame
  simp only [hf]
  refine wpAny_bind (wpAny_field he hd h1 ?_)
  rw [if_neg (by decide)]
  exact entryP hfr hl hf he hkb hen hP hd (Array.getElem?_eq_some_iff.mp h1).1 h
/-- a frame further on -/
theorem noteP_next (hfr : A.frames = some (env :: outer)) (hf : env.frame = some L) (x : FlyP base (env :: outer) e C d .none s.heap)
    (h : ∀ h', FlyP base (env :: outer) e C d (rawInt L) h' → s.heap.UpToSlots h' → Q () { s with heap := h' }) : wpAny M A (noteFrame (.ref e) env) Q E s := by
  obtain ⟨hkb, hen, hl, oe, vs, T, oT, ts, he, hP, hd, h1, hnT, hTe, hT, hdT, h3⟩ := x
  unfold noteFrame
  simp only [hf]
  refine wpAny_bind (wpAny_field he hd h1 ?_)
  rw [if_pos (show (Value.ref T != Value.none) = true from by simp)]
  refine wpAny_bind (wpAny_field hT hdT h3 ?_)
  rw [if_neg (show ¬ ((Value.none == rawInt L) = true) from by simp [rawInt])]
  refine wpAny_bind (wpAny_setField hT hdT (Array.getElem?_eq_some_iff.mp h3).1 ?_)
  have other : ∀ b, b ≠ T → (s.heap.update T (Obj.mapFields (·.setIfInBounds 3 Value.none))).get? b = s.heap.get? b := fun b hb => Heap.get?_update_other _ _ (Ne.symm hb)
  refine entryP hfr (hl.of_keeps fun b o hb hn => ⟨o, (other b (not_rec hT hdT hb hn)).trans hb, rfl⟩) hf ((other e (Ne.symm hTe)).trans he)
    (fun b o hb => (other b fun q => by rw [q, hnT] at hb; cases hb).trans (hkb b o hb)) hen hP hd (Array.getElem?_eq_some_iff.mp h1).1 fun h' x1 x2 => h h' x1 fun b o hb hn => x2 b o ((other b (not_rec hT hdT hb hn)).trans hb) hn
/-- once more in the same frame -/
theorem noteP_again (hf : env.frame = some L) (x : FlyP base (env :: outer) e C d (rawInt L) s.heap) (h : Q () s) : wpAny M A (noteFrame (.ref e) env) Q E s := by
  obtain ⟨hkb, hen, hl, oe, vs, T, oT, ts, he, hP, hd, h1, hnT, hTe, hT, hdT, h3⟩ := x
  unfold noteFrame
  simp only [hf]
  refine wpAny_bind (wpAny_field he hd h1 ?_)
  rw [if_pos (show (Value.ref T != Value.none) = true from by simp)]
  refine wpAny_bind (wpAny_field hT hdT h3 ?_)
  rw [if_pos (show (rawInt L == rawInt L) = true from by simp)]
  exact wpAny_pure h
/-- the mark is taken off -/
theorem landP {l : List Env} (x : FlyP base l e C d fl s.heap) (h : ∀ h', FlyP base l e C d .none h' → s.heap.UpToSlots h' → Q () { s with heap := h' }) : wpAny M A (setFlight (.ref e) none) Q E s := by
  obtain ⟨hkb, hen, hl, oe, vs, T, oT, ts, he, hP, hd, h1, hnT, hTe, hT, hdT, h3⟩ := x
  have hsz : 3 < ts.size := (Array.getElem?_eq_some_iff.mp h3).1
  have other : ∀ b, b ≠ T → (s.heap.update T (Obj.mapFields (·.setIfInBounds 3 ((none : Option Addr).elim Value.none fun f => rawInt f)))).get? b = s.heap.get? b := fun b hb => Heap.get?_update_other _ _ (Ne.symm hb)
  unfold setFlight
  refine wpAny_bind (wpAny_field he hd h1 ?_)
  rw [if_pos (show (Value.ref T != Value.none) = true from by simp)]
  refine wpAny_setField hT hdT hsz (h _ ⟨fun b o hb => (other b fun q => by rw [q, hnT] at hb; cases hb).trans (hkb b o hb), hen, hl.of_keeps fun b o hb hn => ⟨o, (other b (not_rec hT hdT hb hn)).trans hb, rfl⟩, ?_⟩ fun b o hb hn => ⟨o.slots, (other b (not_rec hT hdT hb hn)).trans hb⟩)
  exact ⟨oe, vs, T, _, _, (other e (Ne.symm hTe)).trans he, hP, hd, h1, hnT, hTe, Heap.get?_update_self _ hT (Obj.isFreed_of_fields (Obj.data_mapFields hdT _)), Obj.data_mapFields hdT _, by simp [hsz]⟩
theorem FlyP.tail {h : Heap} (x : FlyP base (env :: outer) e C d fl h) : FlyP base outer e C d fl h := ⟨x.1, x.2.1, x.2.2.1.2.2, x.2.2.2⟩
theorem leaveP_first {oe : Obj} {vs : Array Value} (hfr : A.frames = some (env :: outer)) (hl : s.heap.FunFrames base (env :: outer)) (hf : env.frame = some L)
    (he : s.heap.get? e = some oe) (hkb : base.StaysIn s.heap) (hen : base.get? e = none) (hP : ExcD C d oe) (hd : oe.data = .fields vs) (h1 : vs[1]? = some .none)
    (h : ∀ h', FlyP base outer e C d .none h' → s.heap.UpToSlots h' → Q () { s with heap := h' }) : wpAny M A (leaving env (.ref e)) Q E s := by
  unfold leaving
  exact wpAny_bind (noteP_first hfr hl hf he hkb hen hP hd h1 fun h₁ x1 u1 => landP x1 fun h₂ x2 u2 => h h₂ x2.tail (u1.trans u2))
theorem leaveP_next (hfr : A.frames = some (env :: outer)) (hf : env.frame = some L) (x : FlyP base (env :: outer) e C d .none s.heap)
    (h : ∀ h', FlyP base outer e C d .none h' → s.heap.UpToSlots h' → Q () { s with heap := h' }) : wpAny M A (leaving env (.ref e)) Q E s := by
  unfold leaving
  exact wpAny_bind (noteP_next hfr hf x fun h₁ x1 u1 => landP x1 fun h₂ x2 u2 => h h₂ x2.tail (u1.trans u2))
end
/-- an exception on its way, over a ground G, with things that stay -/
noncomputable def RaisedP (base G : Heap) (l : List Env) (e : Addr) (C : Value) (d : Addr) (news : Led) (h : Heap) : Prop :=
  ∃ B, base.StaysIn B ∧ (∀ b o, G.get? b = some o → b ∉ l.filterMap (·.frame) → B.get? b = some o) ∧ (∀ q ∈ news, B.get? q.1 = some q.2 ∧ G.get? q.1 = none ∧ base.get? q.1 = none) ∧ FlyP B l e C d .none h
theorem frame_mem {env : Env} {outer : List Env} {L b : Addr} (hf : env.frame = some L) (hm : b ∈ (env :: outer).filterMap (·.frame)) : b = L ∨ b ∈ outer.filterMap (·.frame) := by
  obtain ⟨env', he, hb⟩ := List.mem_filterMap.mp hm
  rcases List.mem_cons.mp he with rfl | he
  · exact .inl (Option.some.inj (hb.symm.trans hf))
  · exact .inr (List.mem_filterMap.mpr ⟨env', he, hb⟩)
section
variable {M : Model} {A : Around} {E : Value → Shared → Prop} {s' : Shared} {base g g₂ : Heap} {env : Env} {outer : List Env} {L e d : Addr} {C : Value} {m : Str → Option Value} {news : Led} {Q : Unit → Shared → Prop}
theorem leave_raiseP {oe : Obj} {vs : Array Value} (K : Below A base outer g) (F : Fr g L s'.heap m) (N : News g L s'.heap news) (hf : env.frame = some L) (hk : env.scope.kind = .function) (hen : g.get? e = none) (hne : ∀ q ∈ news, @Ne Nat q.1 e)
    (he : s'.heap.get? e = some oe) (hP : ExcD C d oe) (hd : oe.data = .fields vs) (h1 : vs[1]? = some .none) (hQ : ∀ h', RaisedP base g outer e C d news h' → g.UpToSlots h' → Q () { s' with heap := h' }) :
    wpAny M (A.deeper env) (leaving env (.ref e)) Q E s' := by
  have K' := pushX K F hf hk
  have hbe : base.get? e = none := fresh_of_stays K.stays hen
  have out : ∀ b o, g.get? b = some o → b ∉ outer.filterMap (·.frame) → (hideAll s'.heap (e :: (env :: outer).filterMap (·.frame))).get? b = some o := fun b o q nm => hideAll_get _ (F.keep b o q) fun hm => by
    rcases List.mem_cons.mp hm with z | hm
    · rw [z, hen] at q; cases q
    · rcases frame_mem hf hm with z | z
      · rw [z, kts_self F] at q; cases q
      · exact nm z
  have st : base.StaysIn (hideAll s'.heap (e :: (env :: outer).filterMap (·.frame))) := fun b o q => hideAll_get _ (K'.stays b o q) fun hm => by
    rcases List.mem_cons.mp hm with z | hm
    · rw [z, hbe] at q; cases q
    · rw [(K'.frames.mem hm).1] at q; cases q
  have hl : ∀ q ∈ news, (hideAll s'.heap (e :: (env :: outer).filterMap (·.frame))).get? q.1 = some q.2 ∧ g.get? q.1 = none ∧ base.get? q.1 = none := fun q hq => by
    refine ⟨hideAll_get _ (N q hq).1 fun hm => ?_, (N q hq).2.2, fresh_of_stays K.stays (N q hq).2.2⟩
    rcases List.mem_cons.mp hm with z | hm
    · exact hne q hq z
    · rcases frame_mem hf hm with z | z
      · exact (N q hq).2.1 z
      · obtain ⟨o, ho, _⟩ := (K.frames.mem z).2
        rw [(N q hq).2.2] at ho; cases ho
  exact leaveP_first K'.stack (funFrames_hide K'.frames fun env' he' b hb => List.mem_cons_of_mem _ (List.mem_filterMap.mpr ⟨env', he', hb⟩)) hf he (fun b o q => of_hideAll _ q) (hideAll_none _ (.head _)) hP hd h1 fun h' x u =>
    hQ h' ⟨_, st, out, hl, x⟩ ((Heap.UpToSlots.of_keeps F.keep).trans u)
theorem leave_onP (K : Below A base outer g) (F : Fr g L g₂ m) (hf : env.frame = some L) (R : RaisedP base g₂ (env :: outer) e C d news s'.heap) (hsm : g₂.UpToSlots s'.heap)
    (hQ : ∀ h', RaisedP base g outer e C d news h' → g.UpToSlots h' → Q () { s' with heap := h' }) : wpAny M (A.deeper env) (leaving env (.ref e)) Q E s' := by
  obtain ⟨B, hB, hBG, hl, hfl⟩ := R
  exact leaveP_next (Around.frames_deeper K.stack) hf hfl fun h' x1 x2 => hQ h' ⟨B, hB, fun b o q nm => hBG b o (F.keep b o q) fun hm => by
    rcases frame_mem hf hm with z | z
    · rw [z, kts_self F] at q; cases q
    · exact nm z, fun q hq => ⟨(hl q hq).1, kts_none F.keep (hl q hq).2.1, (hl q hq).2.2⟩, x1⟩ ((Heap.UpToSlots.of_keeps F.keep).trans (hsm.trans x2))
end
section
variable {prog : Program} {w : World} {A₀ : Around} {E : Value → Shared → Prop} {s' : Shared} {base g G : Heap} {outer : List Env} {L a e d C D : Addr} {bm bmD : List Value} {newId newD : String} {m : Str → Option Value} {name : Str} {scope : Scope} {cd : Value}
  {n : Str} {b₀ : Stmt} {suite : List Stmt} {pos np : Pos} {rest : List ExceptHandler} {Q : Flow → Shared → Prop} {news : Led} {KF : Frag}
  {p : Program} {loose : List Str} {mean : ExcName → Option Value} {mg mb : Str → Option Value} {x : Str}
theorem caughtP (R : RaisedP base G (envOf name scope L a cd :: outer) e (.ref C) d news s'.heap) (F : Fr g L G m) (K : Below A₀ base outer g) (hsm : G.UpToSlots s'.heap) (XB : KF.In base) (TB : Top p loose mean mg mb base)
    (ex : nsIn KF mainGlobals x = some (some (.ref D))) (qC : excIn KF C bm newId = true) (qD : excIn KF D bmD newD = true) (hbD : (Value.ref D :: bmD).contains (.type "BaseException") = true) (hbC : (Value.ref C :: bm).contains (.type "BaseException") = true) (hCD : (Value.ref C :: bm).contains (.ref D) = true)
    (k : ∀ h' g' oe ws tk, KtsTurn (outer.filterMap (·.frame)) g g' → Fr g' L h' (fun y => if y = n then some (.ref e) else m y) → News g' L h' ((e, oe) :: news) → ExcD (.ref C) d oe → oe.data = .fields ws → Below A₀ base outer g' → KF.In g' → Top p loose mean mg mb g' →
      wpAny (model prog w) ((A₀.deeper (envOf name scope L a cd)).mark (some (.ref e))) (execs (b₀ :: suite) (envOf name scope L a cd))
        (fun f s₄ => wpAny (model prog w) (A₀.deeper (envOf name scope L a cd)) (do bindName (envOf name scope L a cd) n .none; unbindBehindTheSuite (envOf name scope L a cd) n pos) (fun _ s₅ => Q f s₅) E s₄)
        (AsSuiteRaised (model prog w) ((A₀.deeper (envOf name scope L a cd)).mark (some (.ref e))) (envOf name scope L a cd) n pos (notedBy (model prog w) ((A₀.deeper (envOf name scope L a cd)).mark (some (.ref e))) (envOf name scope L a cd) (cameBackBy (model prog w) (A₀.deeper (envOf name scope L a cd)) (envOf name scope L a cd) E)))
        { s' with heap := h', toks := tk })
    (hk : scope.kind = .function := by rfl) (hlo : (envOf name scope L a cd).kindOf n = some .local := by rfl) (hx : (envOf name scope L a cd).kindOf x = some .globalImplicit := by rfl) (hd : (x == ("__debug__" : Str)) = false := by decide) :
    wpAny (model prog w) (A₀.deeper (envOf name scope L a cd)) (noteFrame (.ref e) (envOf name scope L a cd))
      (fun _ s₂ => wpAny (model prog w) (A₀.deeper (envOf name scope L a cd)) (setFlight (.ref e) none) (fun _ s₃ =>
        wpAny (model prog w) (A₀.deeper (envOf name scope L a cd)) (handleBy (.ref e) (envOf name scope L a cd) (.ExceptHandler (some (.Name x np)) (some n) (b₀ :: suite) pos :: rest)) Q E s₃) E s₂) E s' := by
  obtain ⟨B, hB, hBG, hl, hfl⟩ := R
  have hL : B.get? L = none := by
    obtain ⟨_, ⟨L', _, hf, hn', _⟩, _⟩ := hfl.2.2.1
    obtain rfl : L = L' := Option.some.inj hf
    exact hn'
  refine noteP_next (Around.frames_deeper K.stack) rfl hfl fun h₄ x4 u4 => ?_
  refine landP x4 fun h₅ x5 u5' => ?_
  have u5 := u4.trans u5'
  obtain ⟨g₅, T₅, F₅, K₅⟩ := kts_ground K F hBG x5.1 (hsm.trans u5)
  have X₅ : KF.In g₅ := XB.keeps K₅.stays
  have P₅ : TopRead p loose mg mb g₅ := topRead_of (TB.keeps K₅.stays)
  obtain ⟨ob, _, _, _, _, hob, hobP, _⟩ := id x5.2.2.2
  refine wpAny_handleBy_cons (codeAny_handlers_test (name_K F₅ X₅ P₅ ex ?_ hk hx hd)) (by intro q; cases q)
  refine exc_matches2 (X₅.keeps F₅.keep) qC qD hob hobP.1 hbC hbD hCD (codeAny_handlers_suite_as ?_)
  refine landP x5 fun h₆ x6 u6 => ?_
  obtain ⟨g₆, T₆, F₆, K₆⟩ := kts_ground K F hBG x6.1 ((hsm.trans u5).trans u6)
  obtain ⟨oe, ws, T, oT, ts, hoe, hoP, hoed, _⟩ := id x6.2.2.2
  have ne₆ : g₆.get? e = none := T₆.none_ _ (kts_fresh F hBG x6.2.1 fun o ho m => by
    obtain ⟨_, o', ho', hd⟩ := K.frames.mem m
    rw [ho] at ho'
    cases ho'
    obtain ⟨sl, hs⟩ := ((hsm.trans u5).trans u6) _ _ (F.keep _ _ ho) hd
    rw [hoe] at hs
    cases hs
    exact hd _ hoed)
  have N₆ := News.more F₆ News.nil hoe (fun es n q => by rw [hoed] at q; cases q) ne₆
  have Nl : News g₆ L h₆ news := fun q hq => ⟨x6.1 _ _ (hl q hq).1, (fun z => by have := (hl q hq).1; rw [z, hL] at this; cases this), T₆.none_ _ (kts_none F.keep (hl q hq).2.1)⟩
  have X₆ : KF.In g₆ := XB.keeps K₆.stays
  have P₆ : Top p loose mean mg mb g₆ := TB.keeps K₆.stays
  refine stN F₆ (news := (e, oe) :: news) (fun q hq => ?_) (fun h₇ F₇ N₇ => ?_) hk hlo
  · rcases List.mem_cons.mp hq with rfl | hq
    · exact N₆ _ (.head _)
    · exact Nl q hq
  · exact k h₇ g₆ oe ws _ T₆ F₇ N₇ hoP hoed K₆ X₆ P₆
end
theorem off_R8 : True := by w_top off; trivial
section
local macro_rules | `(tactic| ke_room) => `(tactic| ktr_units)
local macro_rules | `(tactic| k_room) => `(tactic| ktr_room)
noncomputable abbrev bm51 : List Value := [.ref 38, .type "Exception", .type "BaseException", .type "object"]
noncomputable abbrev bm38 : List Value := [.type "Exception", .type "BaseException", .type "object"]
set_option maxRecDepth 100000 in
theorem exc51 (w : World) : excIn (hd.heap_1 w.params) 51 bm51 "Exception.__new__" = true := by kernel_rfl
set_option maxRecDepth 100000 in
theorem exc38 (w : World) : excIn (hd.heap_1 w.params) 38 bm38 "Exception.__new__" = true := by kernel_rfl
noncomputable abbrev madeExc (d t : Addr) : Obj := { cls := .ref 51, dict := some d, data := .fields #[.ref t, .none, .none, .none, .bool false, .none] }
noncomputable abbrev madeDict (w : World) (msg : Str) (tk tk' : Tok) : Obj := Obj.putName (Str.ofString "message") (PyData.keyHash w.params (Str.ofString "message")) (.str (Str.ofString "message") tk) (.str msg tk') emptyDict
local macro_rules | `(tactic| walk_at "getMethod type:Exception") => `(tactic| (k_here; k_dflt (refine' method_type ?F ?X ?m (by decide +kernel) ?e ?h ?_; (case F => k_asm); (case X => k_asm); (case m => kernel_rfl); (case e => k_is); (case h => k_handed))))
local macro_rules | `(tactic| walk_at "call builtin:Exception.__init__") => `(tactic| (k_here; (with_reducible show wpAny _ _ (call (Value.builtin "Exception.__init__") [Value.ref _, Value.str _ _]) _ _ _); k_dflt (refine' excInit_K PySem.F.excBase_Exception ?k0 ?k1 (exc51 _) ?k3 ?k4 ?k5 ?k6 ?_; (case k0 => simp); (case k1 => k_asm); (case k3 => k_asm); (case k4 => k_asm); (case k5 => assumption); (case k6 => rw [sizeLine_eq]; simp); k_whole; intro t' h' F' N' ne1' ne2')))
local macro_rules | `(tactic| walk_at "setAttr ref") => `(tactic| (k_here; (with_reducible show wpAny _ _ (setAttr (Value.ref _) (Str.ofString "message") (Value.str _ _)) _ _ _); k_dflt (refine' excSet_K PySem.F.store_Exception ?k1 (exc51 _) ?k3 ?k4 ?k5 ?r1 ?r2 ?r3 ?k6 ?k7 ?_; (case k1 => k_asm); (case k3 => k_asm); (case k4 => k_asm); (case k5 => assumption); (case r1 => exact rfl); (case r2 => exact rfl); (case r3 => exact rfl); (case k6 => k_is); (case k7 => k_is); k_whole; intro d' tk' h' F' N' ne3' ne4')))
set_option maxRecDepth 100000 in
set_option maxHeartbeats 4000000 in
theorem make51 (w : World) (news : Led) (msg : Str) (tk : Tok) :
    SpecAt w 51 3 20 news [.str msg tk] (fun r tl => ∃ (e : Addr) (d : Addr) (t : Addr) (t0 : Addr) (tk2 : Tok), r = .ref e ∧ @Ne Nat d e ∧ @Ne Nat t e ∧ @Ne Nat t0 e ∧ tl = [(e, madeExc d t), (d, madeDict w msg tk2 tk), (t, tupO [.str msg tk]), (t0, tupO [.str msg tk])]) := by
  unfold SpecAt
  intro p loose mean mg mb dp un gd cn cs a ccd cl outer A₀ base h₀ L m s Q E B F X N T hk hd' hu hret
  refine excNew_K PySem.F.excBase_Exception F N X (exc51 w) (by simp) (by simp) (by simp) (by k_is) (by k_is) (by rw [sizeLine_eq]; simp) fun e t h' F1 N1 hte hne => ?_
  have ht1 : ∀ q ∈ ((t, tupO [.str msg tk]) :: news : Led), q.1 ≠ e := fun q hq => by
    rcases List.mem_cons.mp hq with rfl | hq
    · exact hte
    · exact (hne q hq).2
  k_dflt ktr_enter
  k_steps
  rename ∀ q ∈ (_ :: (t, _) :: news : Led), q.1 ≠ e => n1
  rename ∀ q ∈ ((t, _) :: news : Led), _ => n2
  rename ∀ q ∈ (_ :: (t, _) :: news : Led), @Ne Nat q.1 _ => n4
  rename News h₀ L _ _ => kN
  refine hret _ [_, _, _, _] _ _ (by with_reducible assumption) kN (fun q hq x hx => ?_) ⟨e, _, _, t, _, rfl, by assumption, n1 _ (.head _), hte, rfl⟩
  rcases List.mem_cons.mp hx with rfl | hx
  · exact (hne q hq).2
  rcases List.mem_cons.mp hx with rfl | hx
  · exact n4 q (.tail _ (.tail _ hq))
  rcases List.mem_cons.mp hx with rfl | hx
  · exact n2 q (.tail _ hq)
  rcases List.mem_cons.mp hx with rfl | hx
  · exact (hne q hq).1
  · cases hx
end
set_option maxRecDepth 100000 in
theorem find_msg (w : World) (msg : Str) (tk tk' : Tok) : findObj (hd.heap_1 w.params) 51 (some (madeDict w msg tk tk')) (Str.ofString "message") = some (.value (.str msg tk')) := by kernel_rfl
set_option maxRecDepth 100000 in
theorem excMsg {w : World} {A : Around} {E : Value → Shared → Prop} {s : Shared} {h₀ : Heap} {L : Addr} {m : Str → Option Value} {news : Led} {e d : Addr} {oe : Obj} {ws : Array Value} {msg : Str} {tk tk' : Tok} {expr : Bool} {Q : Value → Shared → Prop}
    (X : (hd.heap_1 w.params).In h₀) (F : Fr h₀ L s.heap m) (N : News h₀ L s.heap news) (he : (e, oe) ∈ news) (hdm : (d, madeDict w msg tk tk') ∈ news) (hP : ExcD (.ref 51) d oe) (hda : oe.data = .fields ws)
    (h : Q (.str msg tk') { s with toks := s.toks + 1 }) : wpAny (model PR w) A (getAttr (.ref e) (Str.ofString "message") expr) Q E s := by
  have Xs := X.keeps F.keep
  have I : InstAt s.heap e oe 51 (some (madeDict w msg tk tk')) := by
    refine ⟨(N _ he).1, hP.1, by rw [notCls, hda], ?_⟩
    rw [hP.2]
    exact (N _ hdm).1
  exact excGet_K PySem.F.attrBase_Exception Xs (exc51 w) (by simp) I (by k_is) (by k_is) (find_msg w msg tk tk') rfl h
theorem off_R9 : True := by w_top off; trivial
noncomputable def lamBody (p1 p2 p3 p4 p5 p6 p7 p8 : Pos) (a b : Int) : PySem.Expr :=
  .Call (.Name (Str.ofString "grown") p1) [.Name (Str.ofString "plane") p2, .Constant (.int a) 0 p3, .Constant (.int b) 0 p4, .Constant (.int 2) 0 p5, .Constant (.int 2) 0 p6, .Name (Str.ofString "is_soft") p7] [] p8
noncomputable def lamScope : Scope := { kind := .function, names := [(Str.ofString "is_soft", .free), (Str.ofString "plane", .free), (Str.ofString "grown", .globalImplicit)], isGenerator := false, isCoroutine := false, more := [] }
/-- a call from the law's own frame, where the ground may turn -/
noncomputable def SpecAt0 (w : World) (f : Addr) (d u : Nat) (news : Led) (vs : List Value) (Post : Value → Led → Prop) : Prop :=
  ∀ (p : Program) (loose : List Str) (mean : ExcName → Option Value) (mg mb : Str → Option Value) (dp un : Nat) (gd : Option (List Code)) (cn : Str) (cs : Scope) (a : Addr) (ccd : Value) (cl : List (Str × Addr)) (A₀ : Around) (base h₀ : Heap) (L : Addr) (m : Str → Option Value) (s : Shared)
    (Q E : Value → Shared → Prop),
    Below A₀ base [] h₀ → (hd.heap_1 w.params).In base → Top p loose mean mg mb base → Fr h₀ L s.heap m → (hd.heap_1 w.params).In h₀ → News h₀ L s.heap news → Top p loose mean mg mb h₀ → cs.kind = .function → dp + d < recursionLimit → un + u < cLine →
    (∀ r tl h' tk', Fr h₀ L h' m → News h₀ L h' (tl ++ news) → Post r tl → Q r { s with heap := h', toks := tk' }) →
    wpAny (model PR w) (ktrTop dp un gd cn cs L a ccd cl []) (call (.ref f) vs) Q E s
theorem SpecAt0.use {w : World} {f : Addr} {d u : Nat} {news : Led} {vs : List Value} {Post : Value → Led → Prop} (C : SpecAt0 w f d u news vs Post)
    {p : Program} {loose : List Str} {mean : ExcName → Option Value} {mg mb : Str → Option Value} {dp un : Nat} {gd : Option (List Code)} {cn : Str} {cs : Scope} {a : Addr} {ccd : Value} {cl : List (Str × Addr)} {A₀ : Around} {base h₀ : Heap} {L : Addr} {m : Str → Option Value} {s : Shared}
    {Q E : Value → Shared → Prop} (B : Below A₀ base [] h₀) (XB : (hd.heap_1 w.params).In base) (TB : Top p loose mean mg mb base) (F : Fr h₀ L s.heap m) (X : (hd.heap_1 w.params).In h₀) (N : News h₀ L s.heap news) (T : Top p loose mean mg mb h₀) (hk : cs.kind = .function) (hd : dp + d < recursionLimit) (hu : un + u < cLine)
    (ret : ∀ r tl h' tk', Fr h₀ L h' m → News h₀ L h' (tl ++ news) → Post r tl → Q r { s with heap := h', toks := tk' }) :
    wpAny (model PR w) (ktrTop dp un gd cn cs L a ccd cl []) (call (.ref f) vs) Q E s := C _ _ _ _ _ _ _ _ _ _ _ _ _ _ _ _ _ _ _ _ _ B XB TB F X N T hk hd hu ret
section
local macro_rules | `(tactic| walk_at "pad") => `(tactic| skip)
local macro_rules | `(tactic| ke_room) => `(tactic| ktr_units)
local macro_rules | `(tactic| k_room) => `(tactic| ktr_room)
local macro_rules | `(tactic| walk_at "exec Raise some none") => `(tactic| (k_here; k_dflt (refine' exec_raise ?k1 ?k2 ?k3 ?k4 ?_; (case k1 => with_reducible assumption); (case k2 => exact exc51 _); (case k3 => simp); (case k4 => exact rfl))))
local macro_rules | `(tactic| walk_at "call ref") => `(tactic| (k_here; (with_reducible show wpAny _ _ (call (Value.ref 51) [Value.str _ _]) _ _ _); k_dflt (ktr_call (make51 _ _ _ _) 51); intro r' tl' h' tk' F' N' hl' hp'; (obtain ⟨e', d', t', t0', tk2', q1', n1', n2', n3', q2'⟩ := hp'); subst q1'; subst q2'; (try simp only [List.nil_append, List.cons_append] at N'); (try dsimp only); (try k_fold)))
local macro_rules | `(tactic| walk_at "getAttr ref") => `(tactic| (k_here; (with_reducible show wpAny _ _ (getAttr (Value.ref _) (Str.ofString "message") _) _ _ _); k_dflt (refine' excMsg ?k1 ?k2 ?k3 ?k4 ?k5 ?k6 ?k7 ?_; (case k1 => k_asm); (case k2 => k_asm); (case k3 => k_asm); (case k6 => assumption); (case k7 => assumption); (case k4 => exact List.Mem.head _); (case k5 => exact List.Mem.tail _ (List.Mem.head _)))))
set_option maxRecDepth 100000 in
set_option maxHeartbeats 4000000 in
theorem refused01 (w : World) (hp : Heap) (xC pC : Addr) (hC : CodeHd hp xC pC) (f c' c1 c2 pl : Addr) (name qual : Str) (pm ctv : Value) (oc o1 o2 : Obj) (vs : Array Value) (t : Tok) (bb : Bool) (p1 p2 p3 p4 p5 p6 p7 p8 : Pos) (news : Led)
    (hf : (f, kla_obj name qual { posonlyargs := [], args := [], vararg := none, kwonlyargs := [], kw_defaults := [], kwarg := none, defaults := [] } (lamBody p1 p2 p3 p4 p5 p6 p7 p8 0 1) lamScope [(Str.ofString "plane", c2), (Str.ofString "is_soft", c1)] pm c' ctv) ∈ news)
    (hc' : (c', oc) ∈ news) (hd1 : oc.data = .fields vs) (hd2 : vs[1]? = some (.str qual t)) (h1 : (c1, o1) ∈ news) (h2 : (c2, o2) ∈ news) (e1 : o1.data = .cell (some (.bool bb))) (e2 : o2.data = .cell (some (.ref pl))) :
    SpecAt0 w 199 8 160 news [.ref f] (fun r tl => r = .bool true) := by
  unfold SpecAt0
  unfold lamBody lamScope at hf
  intro p loose mean mg mb dp un gd cn cs a ccd cl A₀ base h₀ L m s Q E B XB TB F X N T hk hd hu hret
  refine wpAny_call ?_
  refine' call_turn ?k1 ?k2 ?k3 ?k4 ?k5 ?kA ?kF ?kK ?k6 ?k7 ?k8 ?k9 ?kB ?_ ?c2 ?c3 ?c4 ?c5
  case kA => exact rfl
  case kF => exact rfl
  case kK => assumption
  case k1 => k_asm
  case k2 => k_asm
  case k3 => k_asm
  case k4 => k_asm
  case k5 => k_asm
  case k6 => k_is
  case k7 => k_is
  case k8 => ktr_room
  case k9 => exact BindsTo.of_eq rfl
  case c5 => decide
  case kB => exact locs rfl
  case c2 => exact rfl
  case c3 => exact rfl
  case c4 => exact rfl
  intro g' L' h' FG' F' N' B' X' T'
  (try dsimp only)
  (try k_fold)
  k_steps
  rename_i g1 L1 h1' FG1 F1 N1 B1 X1 T1 qk1 ek1 g2 L2 h2' FG2 F2 N2 B2 X2 T2 tkx h3 tk3 F3 e d t' t0 tk2 n1 n2 n3 N3 hl
  refine ⟨e, _, _, rfl, X2.keeps F3.keep, (N3 _ (.head _)).1, rfl, rfl, rfl, ?_⟩
  show wpAny _ _ (leaving _ (.ref e)) _ _ _
  refine leave_raiseP B2 F3 (fun q hq => N3 q (.tail _ hq)) rfl rfl (N3 _ (.head _)).2.2 (fun q hq => ?_) (N3 _ (.head _)).1 ⟨rfl, rfl⟩ rfl rfl fun h4 R4 u4 => ?_
  · rcases List.mem_cons.mp hq with rfl | hq
    · exact n1
    rcases List.mem_cons.mp hq with rfl | hq
    · exact n2
    rcases List.mem_cons.mp hq with rfl | hq
    · exact n3
    · exact hl q hq _ (.head _)
  show wpAny _ _ (leaving _ (.ref e)) _ _ _
  refine leave_onP B1 FG2 rfl R4 u4 fun h5 R5 u5 => ?_
  refine caughtP (D := 51) R5 FG1 B' u5 XB TB ?ex (exc51 w) (exc51 w) (by simp) (by simp) (by simp) ?kk
  case ex => k_is
  intro h6 g6 oe ws tk6 T6 F6 N6 hP hd6 B6 X6 P6
  dsimp only
  generalize (AsSuiteRaised _ _ _ _ _ _) = EE
  k_steps
  rw [show ((Str.ofString "no such sampling" != Str.ofString "") : Bool) = true from by decide]
  exact hret _ [_, _, _, _] _ _ (by assumption) (by assumption) rfl
set_option maxRecDepth 100000 in
set_option maxHeartbeats 4000000 in
theorem refused10 (w : World) (hp : Heap) (xC pC : Addr) (hC : CodeHd hp xC pC) (f c' c1 c2 pl : Addr) (name qual : Str) (pm ctv : Value) (oc o1 o2 : Obj) (vs : Array Value) (t : Tok) (bb : Bool) (p1 p2 p3 p4 p5 p6 p7 p8 : Pos) (news : Led)
    (hf : (f, kla_obj name qual { posonlyargs := [], args := [], vararg := none, kwonlyargs := [], kw_defaults := [], kwarg := none, defaults := [] } (lamBody p1 p2 p3 p4 p5 p6 p7 p8 1 0) lamScope [(Str.ofString "plane", c2), (Str.ofString "is_soft", c1)] pm c' ctv) ∈ news)
    (hc' : (c', oc) ∈ news) (hd1 : oc.data = .fields vs) (hd2 : vs[1]? = some (.str qual t)) (h1 : (c1, o1) ∈ news) (h2 : (c2, o2) ∈ news) (e1 : o1.data = .cell (some (.bool bb))) (e2 : o2.data = .cell (some (.ref pl))) :
    SpecAt0 w 199 8 160 news [.ref f] (fun r tl => r = .bool true) := by
  unfold SpecAt0
  unfold lamBody lamScope at hf
  intro p loose mean mg mb dp un gd cn cs a ccd cl A₀ base h₀ L m s Q E B XB TB F X N T hk hd hu hret
  refine wpAny_call ?_
  refine' call_turn ?k1 ?k2 ?k3 ?k4 ?k5 ?kA ?kF ?kK ?k6 ?k7 ?k8 ?k9 ?kB ?_ ?c2 ?c3 ?c4 ?c5
  case kA => exact rfl
  case kF => exact rfl
  case kK => assumption
  case k1 => k_asm
  case k2 => k_asm
  case k3 => k_asm
  case k4 => k_asm
  case k5 => k_asm
  case k6 => k_is
  case k7 => k_is
  case k8 => ktr_room
  case k9 => exact BindsTo.of_eq rfl
  case c5 => decide
  case kB => exact locs rfl
  case c2 => exact rfl
  case c3 => exact rfl
  case c4 => exact rfl
  intro g' L' h' FG' F' N' B' X' T'
  (try dsimp only)
  (try k_fold)
  k_steps
  rename_i g1 L1 h1' FG1 F1 N1 B1 X1 T1 qk1 ek1 g2 L2 h2' FG2 F2 N2 B2 X2 T2 tkx h3 tk3 F3 e d t' t0 tk2 n1 n2 n3 N3 hl
  refine ⟨e, _, _, rfl, X2.keeps F3.keep, (N3 _ (.head _)).1, rfl, rfl, rfl, ?_⟩
  show wpAny _ _ (leaving _ (.ref e)) _ _ _
  refine leave_raiseP B2 F3 (fun q hq => N3 q (.tail _ hq)) rfl rfl (N3 _ (.head _)).2.2 (fun q hq => ?_) (N3 _ (.head _)).1 ⟨rfl, rfl⟩ rfl rfl fun h4 R4 u4 => ?_
  · rcases List.mem_cons.mp hq with rfl | hq
    · exact n1
    rcases List.mem_cons.mp hq with rfl | hq
    · exact n2
    rcases List.mem_cons.mp hq with rfl | hq
    · exact n3
    · exact hl q hq _ (.head _)
  show wpAny _ _ (leaving _ (.ref e)) _ _ _
  refine leave_onP B1 FG2 rfl R4 u4 fun h5 R5 u5 => ?_
  refine caughtP (D := 51) R5 FG1 B' u5 XB TB ?ex (exc51 w) (exc51 w) (by simp) (by simp) (by simp) ?kk
  case ex => k_is
  intro h6 g6 oe ws tk6 T6 F6 N6 hP hd6 B6 X6 P6
  dsimp only
  generalize (AsSuiteRaised _ _ _ _ _ _) = EE
  k_steps
  rw [show ((Str.ofString "no such sampling" != Str.ofString "") : Bool) = true from by decide]
  exact hret _ [_, _, _, _] _ _ (by assumption) (by assumption) rfl
end
theorem off_S : True := by w_top off; trivial
/-- the law's own text -/
noncomputable def lawFn : List Stmt × Scope := match PySem.Challenge.pw_nz0244_01.main.body.getLast? with
  | some (.FunctionDef _ _ b _ _ _ sc _ _ _) => (b, sc)
  | _ => ([], default)
noncomputable def lawEnv (L fa : Addr) : Env := envOfC (Str.ofString "law") lawFn.2 L fa (.ref 203)
structure LawCtx (w : World) (g : Heap) (L fa : Addr) (p : Program) (loose : List Str) (mean : ExcName → Option Value) (mg mb : Str → Option Value) (E : Value → Shared → Prop) : Prop where
  X : (hd.heap_1 w.params).In g
  T : Top p loose mean mg mb g
  K : Below callerA g [] g
  C : CodeHd g 203 201
  l0 : @LT.lt Nat _ 201 L
  hE : PassesOwn (model PR w) (callerA.deeper (lawEnv L fa)) (lawEnv L fa) E
/-- the law's end -/
noncomputable def LawEnd (g : Heap) (L : Addr) (Q : Flow → Shared → Prop) (s : Shared) : Prop := ∀ h tk m ps led, Fr g L h m → News g L h ((201, tabObj ps) :: led) → Q (.ret (.bool true)) { s with heap := h, toks := tk }
/-- from the k-th statement on -/
noncomputable def LawAt (w : World) (L fa : Addr) (k : Nat) (Q : Flow → Shared → Prop) (E : Value → Shared → Prop) (s : Shared) : Prop :=
  wpAny (model PR w) (callerA.deeper (lawEnv L fa)) (execs (lawFn.1.drop k) (lawEnv L fa)) Q E s
theorem fr_split {g h : Heap} {L : Addr} {m : Str → Option Value} {x : Str} {v : Value} (F : Fr g L h m) (e : m x = some v) : Fr g L h (fun z => if z = x then some v else m z) := by
  have e' : (fun z => if z = x then some v else m z) = m := by
    funext z
    by_cases hz : z = x
    · rw [if_pos hz, hz, e]
    · rw [if_neg hz]
  rw [e']; exact F
/-- an address apart from the source, the law's cells and the table -/
noncomputable def LawNe (src L a : Addr) : Prop := @Ne Nat a src ∧ @Ne Nat a (L + 1 + 1 + 1 + 1 + 1) ∧ @Ne Nat a (L + 1 + 1 + 1 + 1) ∧ @Ne Nat a (L + 1 + 1 + 1) ∧ @Ne Nat a (L + 1 + 1) ∧ @Ne Nat a (L + 1) ∧ @Ne Nat a 201
noncomputable def LawOff (src L : Addr) (led : Led) : Prop := ∀ p ∈ led, LawNe src L p.1
theorem LawOff.nil {src L : Addr} : LawOff src L [] := fun _ h => nomatch h
theorem LawOff.cons {src L a : Addr} {o : Obj} {led : Led} (h : LawNe src L a) (hl : LawOff src L led) : LawOff src L ((a, o) :: led) := fun p hp => by
  rcases List.mem_cons.mp hp with rfl | hp
  · exact h
  · exact hl p hp
theorem LawOff.append {src L : Addr} {l1 l2 : Led} (h1 : LawOff src L l1) (h2 : LawOff src L l2) : LawOff src L (l1 ++ l2) := fun p hp => (List.mem_append.mp hp).elim (h1 p) (h2 p)
/-- the source lies apart from the rest -/
noncomputable def SrcNe (src L : Addr) : Prop := @Ne Nat (L + 1 + 1 + 1 + 1 + 1) src ∧ @Ne Nat (L + 1 + 1 + 1 + 1) src ∧ @Ne Nat (L + 1 + 1 + 1) src ∧ @Ne Nat (L + 1 + 1) src ∧ @Ne Nat (L + 1) src ∧ @Ne Nat 201 src
section
variable {prog : Program} {w : World} {A : Around} {s : Shared} {h₀ : Heap} {L : Addr} {m : Str → Option Value} {env : Env}
/-- a comprehension's turns by an invariant -/
theorem comp_inv {elt : PySem.Expr} {x : Str} {scope : Scope} {cl : List (Str × Addr)} {S : Led → Prop} {P : Nat → Value → Prop} {Fin : List Value → Led → Prop} {n : Nat} (I : Nat → List Value → Led → Prop)
    (turn : ∀ i ys news v J oJ C oC D m₂ h tk (E' : Value → Shared → Prop), i < n → I i ys news → P i v → LCg.NsObj oC m₂ → m₂ x = some v → Fr h₀ L h m → News h₀ L h ((J, oJ) :: (C, oC) :: (D, LCg.lst ys) :: news) → LCg.Off3 J C D news → ((@Ne Nat J C) ∧ (@Ne Nat J D) ∧ (@Ne Nat C D)) →
      wpAny (model prog w) A (eval elt (compEnvC scope cl C env)) (LCg.CompEnd h₀ L m { s with heap := h, toks := tk } J oJ C oC D (LCg.lst ys) S (fun y news' => I (i + 1) (ys ++ [y]) news')) E' { s with heap := h, toks := tk })
    (fin : ∀ ys news, I n ys news → Fin ys news) : ∀ (k i : Nat) (ys : List Value) (news : Led), i + k = n → I i ys news → LCg.CompRest prog w A h₀ L m env elt x scope cl s S P Fin k i ys news
  | 0, i, ys, news, e, h => LCg.CompRest.zero (fin _ _ (by obtain rfl : i = n := (by omega); exact h))
  | k + 1, i, ys, news, e, h => LCg.CompRest.succ fun v J oJ C oC D m₂ hp tk E' hP hC hx F N off ne =>
    wpAny_mono (turn i ys news v J oJ C oC D m₂ hp tk E' (by omega) h hP hC hx F N off ne) (fun y s' hy => by
      obtain ⟨h', tk', news', rfl, F', N', off', hS, hI⟩ := hy
      exact ⟨h', tk', news', rfl, F', N', off', hS, comp_inv I turn fin k (i + 1) (ys ++ [y]) news' (by omega) hI⟩) fun _ _ e => e
end
theorem off3_of {J C D : Addr} {l : Led} (h : ∀ p ∈ l, @Ne Nat p.1 J ∧ @Ne Nat p.1 C ∧ @Ne Nat p.1 D) : LCg.Off3 J C D l := LCg.Off3.of h
theorem IntsIn.datAll {led : Led} {ys : List Value} {rs : List (List Int)} {a : Addr} {zs : List Value} {r : List Int} {n : Nat} (h : DatAll led ys (rs.map intsD)) (hz : IntsAre zs r) : DatAll ((a, listOf zs.toArray n) :: led) (ys ++ [.ref a]) ((rs ++ [r]).map intsD) := by
  rw [List.map_append]
  exact (DatAll.mono (fun p hp => .tail _ hp) h).append (.one (.list (.head _) (intsAre_dat hz)))
theorem upd_src {src L : Addr} {o oP oF oT oW oS oX : Obj} {led : Led} (hne : SrcNe src L) (h : ∀ p ∈ led, @Ne Nat p.1 src) :
    UpdF src o ((src, o) :: (L + 1 + 1 + 1 + 1 + 1, oP) :: (L + 1 + 1 + 1 + 1, oF) :: (L + 1 + 1 + 1, oT) :: (L + 1 + 1, oW) :: (L + 1, oS) :: (201, oX) :: led) (fun o' => (src, o') :: (L + 1 + 1 + 1 + 1 + 1, oP) :: (L + 1 + 1 + 1 + 1, oF) :: (L + 1 + 1 + 1, oT) :: (L + 1 + 1, oW) :: (L + 1, oS) :: (201, oX) :: led) :=
  UpdF.head (fun p hp => by
    obtain ⟨h5, h4, h3, h2, h1, h0⟩ := hne
    simp only [List.mem_cons] at hp
    rcases hp with rfl | rfl | rfl | rfl | rfl | rfl | hp
    · exact h5
    · exact h4
    · exact h3
    · exact h2
    · exact h1
    · exact h0
    · exact h p hp)
theorem range_is (n : Nat) : Builtin.Range.rangeSize 0 (n : Int) 1 = (n : Int) := by have := rangeSize_nat 0 (n : Int); simpa using this
/-- what a call has made goes behind the law's own -/
theorem law_front {g h : Heap} {L src : Addr} {o oP oF oT oW oS oX : Obj} {tl led : Led} (N : News g L h (tl ++ ((src, o) :: (L + 1 + 1 + 1 + 1 + 1, oP) :: (L + 1 + 1 + 1 + 1, oF) :: (L + 1 + 1 + 1, oT) :: (L + 1 + 1, oW) :: (L + 1, oS) :: (201, oX) :: led)))
    (hl : ∀ q ∈ (src, o) :: (L + 1 + 1 + 1 + 1 + 1, oP) :: (L + 1 + 1 + 1 + 1, oF) :: (L + 1 + 1 + 1, oT) :: (L + 1 + 1, oW) :: (L + 1, oS) :: (201, oX) :: led, ∀ x ∈ tl, @Ne Nat q.1 x.1) (hoff : LawOff src L led) :
    ∃ led', (∀ p ∈ tl, p ∈ led') ∧ (∀ p ∈ led, p ∈ led') ∧ LawOff src L led' ∧ News g L h ((src, o) :: (L + 1 + 1 + 1 + 1 + 1, oP) :: (L + 1 + 1 + 1 + 1, oF) :: (L + 1 + 1 + 1, oT) :: (L + 1 + 1, oW) :: (L + 1, oS) :: (201, oX) :: led') := by
  refine ⟨tl ++ led, fun p hp => List.mem_append_left _ hp, fun p hp => List.mem_append_right _ hp, LawOff.append (fun p hp => ⟨Ne.symm (hl _ (.head _) p hp), Ne.symm (hl _ (.tail _ (.head _)) p hp), Ne.symm (hl _ (.tail _ (.tail _ (.head _))) p hp), Ne.symm (hl _ (.tail _ (.tail _ (.tail _ (.head _)))) p hp), Ne.symm (hl _ (.tail _ (.tail _ (.tail _ (.tail _ (.head _))))) p hp), Ne.symm (hl _ (.tail _ (.tail _ (.tail _ (.tail _ (.tail _ (.head _)))))) p hp), Ne.symm (hl _ (.tail _ (.tail _ (.tail _ (.tail _ (.tail _ (.tail _ (.head _))))))) p hp)⟩) hoff, fun p hp => N p ?_⟩
  simp only [List.mem_cons, List.mem_append] at hp ⊢
  rcases hp with hp | hp | hp | hp | hp | hp | hp | hp | hp <;> simp [hp]
theorem datAll_at {led : Led} : ∀ {vs : List Value} {ds : List Dat} {i : Nat} {v : Value}, DatAll led vs ds → vs[i]? = some v → ∃ d, ds[i]? = some d ∧ DatIn led v d
  | [], [], _, _, _, e => by simp at e
  | [], _ :: _, _, _, h, _ => nomatch h
  | _ :: _, [], _, _, h, _ => nomatch h
  | _ :: _, d :: _, 0, _, .cons h _, e => ⟨d, rfl, by simpa using (Option.some.inj e) ▸ h⟩
  | _ :: vs, _ :: ds, i + 1, v, .cons _ r, e => by
    obtain ⟨d, h1, h2⟩ := datAll_at (vs := vs) (ds := ds) (i := i) (v := v) r (by simpa using e)
    exact ⟨d, by simpa using h1, h2⟩
theorem law_tail7 {a b c d e f t x : Addr × Obj} {led : Led} (h : x ∈ led) : x ∈ a :: b :: c :: d :: e :: f :: t :: led := .tail _ (.tail _ (.tail _ (.tail _ (.tail _ (.tail _ (.tail _ h))))))
theorem law_newer {a src L : Addr} {o oP oF oT oW oS oX : Obj} {led : Led} (h : ∀ q ∈ (src, o) :: (L + 1 + 1 + 1 + 1 + 1, oP) :: (L + 1 + 1 + 1 + 1, oF) :: (L + 1 + 1 + 1, oT) :: (L + 1 + 1, oW) :: (L + 1, oS) :: (201, oX) :: led, @Ne Nat q.1 a) : LawNe src L a :=
  ⟨Ne.symm (h _ (.head _)), Ne.symm (h _ (.tail _ (.head _))), Ne.symm (h _ (.tail _ (.tail _ (.head _)))), Ne.symm (h _ (.tail _ (.tail _ (.tail _ (.head _))))), Ne.symm (h _ (.tail _ (.tail _ (.tail _ (.tail _ (.head _)))))), Ne.symm (h _ (.tail _ (.tail _ (.tail _ (.tail _ (.tail _ (.head _))))))), Ne.symm (h _ (.tail _ (.tail _ (.tail _ (.tail _ (.tail _ (.tail _ (.head _))))))))⟩
theorem PlaneOb.mono {w : World} {n1 n2 : Led} {x l : Addr} {W H : Int} (h : PlaneOb w n1 x W H l) (hs : ∀ p ∈ n1, p ∈ n2) : PlaneOb w n2 x W H l := by
  obtain ⟨dx, t, u, k1, k2, k3, m1, m2⟩ := h
  exact ⟨dx, t, u, k1, k2, k3, hs _ m1, hs _ m2⟩
theorem allLt_mem {a : Addr} : ∀ {l : Led}, AllLt a l → ∀ p ∈ l, @LT.lt Nat _ p.1 a
  | [], _, _, h => nomatch h
  | _ :: _, x, p, h => by
    rcases List.mem_cons.mp h with rfl | h
    · exact x.1
    · exact allLt_mem x.2 p h
theorem to_nat {d b : Int} (h : d < b) (h0 : 0 ≤ d) : ∃ n : Nat, 1 + d = (n : Int) ∧ 1 ≤ n ∧ (n : Int) ≤ b := ⟨(1 + d).toNat, by omega, by omega, by omega⟩
theorem ints_ok (r : List Int) : kqdOk 8 (intsD r) = true := by
  unfold intsD
  simp only [kqdOk, List.all_map, List.all_eq_true]
  intro x _
  rfl
theorem rows_ok (R : List (List Int)) : ∀ d ∈ R.map intsD, kqdOk 8 d = true := fun d hd => by
  obtain ⟨r, _, rfl⟩ := List.mem_map.mp hd
  exact ints_ok r
section
variable {prog : Program} {w : World} {A : Around} {E : Value → Shared → Prop} {s : Shared} {h₀ : Heap} {L a b : Addr} {news n₁ n₂ : Led} {R : List (List Int)} {r : List Int} {Q : Value → Shared → Prop}
theorem rows_ne (N : News h₀ L s.heap news) (ha : RowsIn n₁ (.ref a) R) (sa : ∀ p ∈ n₁, p ∈ news) (hb : RowsIn n₂ (.ref b) R) (sb : ∀ p ∈ n₂, p ∈ news) (hu : A.units + 64 < cLine) (h : Q (.bool false) s) : wpAny (model prog w) A (compareOp .NotEq (.ref a) (.ref b)) Q E s := by
  obtain ⟨_, xs, ka, e1, hm1, hd1⟩ := ha.open
  obtain ⟨_, ys, kb, e2, hm2, hd2⟩ := hb.open
  cases e1; cases e2
  exact kqd_ne N (sa _ hm1) rfl rfl hd1 sa (sb _ hm2) rfl rfl hd2 sb (rows_ok R) (rows_ok R) hu (by simpa using h)
theorem rows_eq (N : News h₀ L s.heap news) (ha : RowsIn n₁ (.ref a) R) (sa : ∀ p ∈ n₁, p ∈ news) (hb : RowsIn n₂ (.ref b) R) (sb : ∀ p ∈ n₂, p ∈ news) (hu : A.units + 64 < cLine) (h : Q (.bool true) s) : wpAny (model prog w) A (compareOp .Eq (.ref a) (.ref b)) Q E s := by
  obtain ⟨_, xs, ka, e1, hm1, hd1⟩ := ha.open
  obtain ⟨_, ys, kb, e2, hm2, hd2⟩ := hb.open
  cases e1; cases e2
  exact kqd_eq N (sa _ hm1) rfl rfl hd1 sa (sb _ hm2) rfl rfl hd2 sb (rows_ok R) (rows_ok R) hu (by simpa using h)
end
/-- a list of pairs of small ints -/
noncomputable def PairsAre (led : Led) (vs : List Value) : Prop := ∀ v ∈ vs, ∃ a x y, v = .ref a ∧ PairIn led a x y ∧ (1 ≤ x ∧ x ≤ 3) ∧ 1 ≤ y ∧ y ≤ 3
theorem PairsAre.nil {led : Led} : PairsAre led [] := fun _ h => nomatch h
theorem PairsAre.cons {led : Led} {a : Addr} {x y : Int} {t u : Tok} {n : Nat} {vs : List Value} (h : (a, ({ cls := .type "tuple", data := .seq #[.int x t, .int y u] n } : Obj)) ∈ led) (hx : 1 ≤ x ∧ x ≤ 3) (hy : 1 ≤ y ∧ y ≤ 3) (r : PairsAre led vs) : PairsAre led (.ref a :: vs) := fun v hv => by
  rcases List.mem_cons.mp hv with rfl | hv
  · exact ⟨a, x, y, rfl, ⟨t, u, n, h⟩, hx, hy⟩
  · exact r v hv
theorem off_StMm : True := by w_top off; trivial
section StageMm
local macro_rules | `(tactic| k_mem) => `(tactic| k_dflt (first | assumption | exact List.Mem.head _ | (refine List.Mem.tail _ ?_; k_mem) | (refine List.mem_append_right _ ?_; k_mem) | (refine List.mem_append_left _ ?_; k_mem)))
local macro_rules | `(tactic| walk_at "subscriptTail Name Constant ref int") => `(tactic| (k_here; k_dflt (refine' item_tupleT ?t ?a ?b ?c ?d ?_; (case t => exact News.isTup (by k_asm) (by k_mem)); (case a => decide); (case b => decide); (case c => rfl); (case d => rfl); k_whole)))
local macro_rules | `(tactic| walk_at "compareOp Eq ref ref") => `(tactic| (k_here; (with_reducible show wpAny _ _ (compareOp CmpOp.Eq (Value.ref _) (Value.ref _)) _ _ _); k_dflt (refine' rows_eq ?N ?a ?sa ?b ?sb ?u ?_; (case N => k_asm); (case a => with_reducible assumption); (case b => with_reducible assumption); (case sa => kcj_all); (case sb => kcj_all); (case u => ktr_units))))
local macro_rules | `(tactic| walk_at "execs cons") => `(tactic| (k_here; (with_reducible show wpAny _ _ (execs (Stmt.Return _ _ :: _) _) _ _ _); refine Stop.out ?_))
set_option maxRecDepth 100000 in
set_option maxHeartbeats 2000000 in
theorem stageM {w : World} {g : Heap} {L fa src lr lb pl lt lz : Addr} {p : Program} {loose : List Str} {mean : ExcName → Option Value} {mg mb : Str → Option Value} {Q : Flow → Shared → Prop} {E : Value → Shared → Prop} {s : Shared} {m : Str → Option Value} {o oS oW oT oF oP : Obj} {wd ht zw zh ac dn : Nat} {sf : Bool} {R : List (List Int)} {led : Led} {ps : Array Value}
    (cx : LawCtx w g L fa p loose mean mg mb E) (hQ : LawEnd g L Q s) (ho : SrcOk o) (hne : SrcNe src L) (hoff : LawOff src L led) (hR : RowsIn led (.ref lr) R) (hPl : PlaneOb w led pl wd ht lr) (hr : Rect R wd ht)
    (pt : PairIn led lt ac dn) (pz : PairIn led lz zw zh) (e0 : 1 ≤ ac) (e1 : 1 ≤ dn) (k0 : ac ≤ 3) (k1 : dn ≤ 3) (hz1 : 1 ≤ zw) (hz2 : zw ≤ 9) (hz3 : 1 ≤ zh) (hz4 : zh ≤ 9)
    (F : Fr g L s.heap (fun z => if z = Str.ofString "times" then some (.ref lt) else if z = Str.ofString "size" then some (.ref lz) else if z = Str.ofString "rows" then some (.ref lr) else m z)) (N : News g L s.heap ((src, o) :: (L + 1 + 1 + 1 + 1 + 1, oP) :: (L + 1 + 1 + 1 + 1, oF) :: (L + 1 + 1 + 1, oT) :: (L + 1 + 1, oW) :: (L + 1, oS) :: (201, tabObj ps) :: led))
    (dP : oP.data = .cell (some (.ref pl))) (dF : oF.data = .cell (some (.bool sf))) (hw2 : wd ≤ 4) (hh2 : ht ≤ 3) :
    LawAt w L fa 16 Q E s := by
  have cx0 := cx
  obtain ⟨X, T, K, C, l0, hE⟩ := cx
  unfold LawAt
  k_dflt (show wpAny _ (Around.deeper callerA (envOfC _ ⟨_, _, _, _, _⟩ _ _ _)) (execs (_ :: _) (envOfC _ ⟨_, _, _, _, _⟩ _ _ _)) _ _ _)
  have hP0 : PlaneIn w led pl wd ht R := hPl.with hR (fun _ h => h) (fun _ h => h)
  obtain ⟨q1, q2, nq, hmt⟩ := id pt
  obtain ⟨q5, q6, nz, hmz⟩ := id pz
  k_steps
  change wpAny _ _ _ _ _ _
  rename Addr => fo
  rename PlaneIn _ _ _ _ _ (grownR _ _ _ _ _ _ _ _) => hFo
  rename News _ _ _ _ => N9
  rename Fr _ _ _ _ => F9
  rename ∀ q : Addr × Obj, q ∈ _ → ∀ x : Addr × Obj, x ∈ _ → @Ne Nat q.1 x.1 => hl9
  obtain ⟨led9, hs1, hs2, off9, N8⟩ := law_front N9 hl9 hoff
  clear N9 hl9
  rw [grown_due (o0 := 1) (o1 := 1) (m0 := (ac : Int)) (m1 := (dn : Int)) hr (by decide) (by decide) (by omega) (by omega) (by omega) (by omega)] at hFo
  obtain ⟨dx9, t9, u9, ka9, kb9, kc9, lf, mo1, mo2, hRf⟩ := hFo.mono hs1
  have hR9 := hR.mono hs2
  have pt9 := pt.mono hs2
  have pz9 := pz.mono hs2
  clear hR hPl hP0 hmt hmz pt pz hFo
  refine wpAny_execs_cons ?_
  k_steps
  rename News _ _ _ _ => N9
  rename Fr _ _ _ _ => F9
  exact hQ _ _ _ ps [] F9 (fun p hp => N9 p (by rw [List.mem_singleton.mp hp]; k_mem))
end StageMm
theorem off_StLl : True := by w_top off; trivial
section StageLl
local macro_rules | `(tactic| walk_at "execs cons") => `(tactic| (k_here; (with_reducible show wpAny _ _ (execs (Stmt.Assign [Expr.Name (Str.ofString "other") _] _ _ :: _) _) _ _ _); refine Stop.out ?_))
set_option maxRecDepth 100000 in
set_option maxHeartbeats 2000000 in
theorem stageL {w : World} {g : Heap} {L fa src lr lb pl lo lm lz : Addr} {p : Program} {loose : List Str} {mean : ExcName → Option Value} {mg mb : Str → Option Value} {Q : Flow → Shared → Prop} {E : Value → Shared → Prop} {s : Shared} {m : Str → Option Value} {o oS oW oT oF oP : Obj} {wd ht zw zh : Nat} {top u0 u1 m0 m1 : Int} {tt tw : Tok} {sf : Bool} {R : List (List Int)} {led : Led} {ps : Array Value}
    (cx : LawCtx w g L fa p loose mean mg mb E) (hQ : LawEnd g L Q s) (ho : SrcOk o) (hne : SrcNe src L) (hoff : LawOff src L led) (hR : RowsIn led (.ref lr) R) (hB : RowsIn led (.ref lb) R) (hPl : PlaneOb w led pl wd ht lr) (hr : Rect R wd ht)
    (po : PairIn led lo u0 u1) (pm : PairIn led lm m0 m1) (pz : PairIn led lz zw zh) (e0 : 1 ≤ u0) (e1 : 1 ≤ u1) (k0 : u0 ≤ m0) (k1 : u1 ≤ m1) (g0 : m0 ≤ 3) (g1 : m1 ≤ 3) (hz1 : 1 ≤ zw) (hz2 : zw ≤ 9) (hz3 : 1 ≤ zh) (hz4 : zh ≤ 9)
    (F : Fr g L s.heap (fun z => if z = Str.ofString "size" then some (.ref lz) else if z = Str.ofString "own" then some (.ref lo) else if z = Str.ofString "most" then some (.ref lm) else if z = Str.ofString "before" then some (.ref lb) else if z = Str.ofString "rows" then some (.ref lr) else m z)) (N : News g L s.heap ((src, o) :: (L + 1 + 1 + 1 + 1 + 1, oP) :: (L + 1 + 1 + 1 + 1, oF) :: (L + 1 + 1 + 1, oT) :: (L + 1 + 1, oW) :: (L + 1, oS) :: (201, tabObj ps) :: led))
    (dP : oP.data = .cell (some (.ref pl))) (dF : oF.data = .cell (some (.bool sf))) (dT : oT.data = .cell (some (.int top tt))) (dW : oW.data = .cell (some (.int wd tw))) (dS : oS.data = .cell (some (.ref src)))
    (hw2 : wd ≤ 4) (hh2 : ht ≤ 3) (ht1 : 0 < top) (ht2 : top < 1000) :
    LawAt w L fa 15 Q E s  := by
  have cx0 := cx
  obtain ⟨X, T, K, C, l0, hE⟩ := cx
  unfold LawAt
  k_dflt (show wpAny _ (Around.deeper callerA (envOfC _ ⟨_, _, _, _, _⟩ _ _ _)) (execs (_ :: _) (envOfC _ ⟨_, _, _, _, _⟩ _ _ _)) _ _ _)
  have hne1 := hne
  simp only [SrcNe] at hne1
  have hsr : ∀ p ∈ led, p.1 ≠ src := fun p hp => (hoff p hp).1
  k_steps
  change wpAny _ _ _ _ _ _
  rename_i f1 f2 o2 hO2 d2 f3 hd2 he2 qa ea f4 f5 o1 hO1 d1 f6 hd1 he1 D1 f7 l1x f8 F9 N9
  obtain ⟨ac, eac, hac1, hac2⟩ := to_nat he2 hd2
  obtain ⟨dn, edn, hdn1, hdn2⟩ := to_nat he1 hd1
  rw [eac, edn] at N9
  obtain ⟨led9, N8, hsub, off9, pt⟩ : ∃ led9, News g L f8 ((src, o1) :: (L + 1 + 1 + 1 + 1 + 1, oP) :: (L + 1 + 1 + 1 + 1, oF) :: (L + 1 + 1 + 1, oT) :: (L + 1 + 1, oW) :: (L + 1, oS) :: (201, tabObj ps) :: led9) ∧ (∀ p ∈ led, p ∈ led9) ∧ LawOff src L led9 ∧ PairIn led9 D1 ac dn := by
    refine ⟨(D1, _) :: led, fun p hp => N9 p (by revert p; kcj_all), by kcj_all, ?_, ⟨_, _, _, .head _⟩⟩
    exact LawOff.cons ⟨by omega, by omega, by omega, by omega, by omega, by omega, by omega⟩ hoff
  have F8 := fr_split (x := Str.ofString "times") (v := .ref D1) (fr_split (x := Str.ofString "size") (v := .ref lz) (fr_split (x := Str.ofString "rows") (v := .ref lr) F9 rfl) rfl) rfl
  (try dsimp only)
  with_unfolding_all show LawAt w L fa 16 Q E _
  exact @stageM w g L fa src lr lb pl D1 lz p loose mean mg mb Q E _ _ o1 oS oW oT oF oP wd ht zw zh ac dn sf R led9 ps cx0 hQ hO1 hne off9 (hR.mono hsub) (hPl.mono hsub) hr pt (pz.mono hsub) hac1 hdn1 (by omega) (by omega) hz1 hz2 hz3 hz4 F8 N8 dP dF hw2 hh2
end StageLl
theorem off_StKk : True := by w_top off; trivial
section StageKk
theorem upd_tab {src L : Addr} {o oP oF oT oW oS oX : Obj} {led : Led} (hne : SrcNe src L) (l0 : @LT.lt Nat _ 201 L) (h : ∀ p ∈ led, @Ne Nat p.1 201) :
    UpdF 201 oX ((src, o) :: (L + 1 + 1 + 1 + 1 + 1, oP) :: (L + 1 + 1 + 1 + 1, oF) :: (L + 1 + 1 + 1, oT) :: (L + 1 + 1, oW) :: (L + 1, oS) :: (201, oX) :: led) (fun o' => (src, o) :: (L + 1 + 1 + 1 + 1 + 1, oP) :: (L + 1 + 1 + 1 + 1, oF) :: (L + 1 + 1 + 1, oT) :: (L + 1 + 1, oW) :: (L + 1, oS) :: (201, o') :: led) := by
  obtain ⟨-, -, -, -, -, h0⟩ := hne
  have n1 : @Ne Nat (L + 1) 201 := by omega
  have n2 : @Ne Nat (L + 1 + 1) 201 := by omega
  have n3 : @Ne Nat (L + 1 + 1 + 1) 201 := by omega
  have n4 : @Ne Nat (L + 1 + 1 + 1 + 1) 201 := by omega
  have n5 : @Ne Nat (L + 1 + 1 + 1 + 1 + 1) 201 := by omega
  exact .tail (Ne.symm h0) (.tail n5 (.tail n4 (.tail n3 (.tail n2 (.tail n1 (.head h))))))
local macro_rules | `(tactic| ke_room) => `(tactic| ktr_units)
local macro_rules | `(tactic| k_room) => `(tactic| ktr_room)
local macro_rules | `(tactic| walk_at "call ref") => `(tactic| (k_here; (with_reducible show wpAny _ _ (call (Value.ref 199) _) _ _ _); refine Stop.out ?_))
local macro_rules | `(tactic| walk_at "eval Lambda") => `(tactic| (k_here; refine Stop.out ?_))
local macro_rules | `(tactic| walk_at "execs cons") => `(tactic| (k_here; (with_reducible show wpAny _ _ (execs (Stmt.Assign [Expr.Name (Str.ofString "times") _] _ _ :: _) _) _ _ _); refine Stop.out ?_))
set_option maxRecDepth 100000 in
set_option maxHeartbeats 2000000 in
theorem stageK {w : World} {g : Heap} {L fa src lr lb pl lo lm lz : Addr} {p : Program} {loose : List Str} {mean : ExcName → Option Value} {mg mb : Str → Option Value} {Q : Flow → Shared → Prop} {E : Value → Shared → Prop} {s : Shared} {m : Str → Option Value} {o oS oW oT oF oP : Obj} {wd ht zw zh : Nat} {top u0 u1 m0 m1 : Int} {tt tw : Tok} {sf : Bool} {R : List (List Int)} {led : Led}
    (cx : LawCtx w g L fa p loose mean mg mb E) (hQ : LawEnd g L Q s) (ho : SrcOk o) (hne : SrcNe src L) (hoff : LawOff src L led) (hR : RowsIn led (.ref lr) R) (hB : RowsIn led (.ref lb) R) (hPl : PlaneOb w led pl wd ht lr) (hr : Rect R wd ht)
    (po : PairIn led lo u0 u1) (pm : PairIn led lm m0 m1) (pz : PairIn led lz zw zh) (e0 : 1 ≤ u0) (e1 : 1 ≤ u1) (k0 : u0 ≤ m0) (k1 : u1 ≤ m1) (g0 : m0 ≤ 3) (g1 : m1 ≤ 3) (hz1 : 1 ≤ zw) (hz2 : zw ≤ 9) (hz3 : 1 ≤ zh) (hz4 : zh ≤ 9)
    (F : Fr g L s.heap (fun z => if z = Str.ofString "size" then some (.ref lz) else if z = Str.ofString "own" then some (.ref lo) else if z = Str.ofString "most" then some (.ref lm) else if z = Str.ofString "before" then some (.ref lb) else if z = Str.ofString "rows" then some (.ref lr) else m z)) (N : News g L s.heap ((src, o) :: (L + 1 + 1 + 1 + 1 + 1, oP) :: (L + 1 + 1 + 1 + 1, oF) :: (L + 1 + 1 + 1, oT) :: (L + 1 + 1, oW) :: (L + 1, oS) :: (201, tabObj #[]) :: led))
    (dP : oP.data = .cell (some (.ref pl))) (dF : oF.data = .cell (some (.bool sf))) (dT : oT.data = .cell (some (.int top tt))) (dW : oW.data = .cell (some (.int wd tw))) (dS : oS.data = .cell (some (.ref src)))
    (hw2 : wd ≤ 4) (hh2 : ht ≤ 3) (ht1 : 0 < top) (ht2 : top < 1000) :
    LawAt w L fa 14 Q E s  := by
  have cx0 := cx
  obtain ⟨X, T, K, C, l0, hE⟩ := cx
  unfold LawAt
  k_dflt (show wpAny _ (Around.deeper callerA (envOfC _ ⟨_, _, _, _, _⟩ _ _ _)) (execs (_ :: _) (envOfC _ ⟨_, _, _, _, _⟩ _ _ _)) _ _ _)
  refine wpAny_execs_cons ?_
  k_steps
  change wpAny _ _ _ _ _ _
  rename News _ _ _ _ => N9
  rename Fr _ _ _ _ => F9
  k_dflt (refine kla_eval rfl (kla_nest F9 N9 T C rfl (upd_tab hne l0 fun p hp => (hoff p hp).2.2.2.2.2.2) ?tr ?am rfl ?_))
  case tr => kn_triples
  case am => kn_among
  intro f c' oc vs t ctv h' tk' F' N' d1 d2 l1 l2
  (try dsimp only at N')
  clear F9 N9 l1 l2
  k_steps
  change wpAny _ _ _ _ _ _
  k_dflt (refine' SpecAt0.use (refused01 w g 203 201 C f c' (L + 1 + 1 + 1 + 1) (L + 1 + 1 + 1 + 1 + 1) pl _ _ _ _ oc oF oP vs t sf _ _ _ _ _ _ _ _ _ ?hf ?hc d1 d2 ?h1 ?h2 dF dP) K X T F' X N' T rfl ?kd ?ku ?_)
  case hf => exact List.Mem.head _
  case hc => exact .tail _ (.head _)
  case h1 => exact .tail _ (.tail _ (.tail _ (.tail _ (.head _))))
  case h2 => exact .tail _ (.tail _ (.tail _ (.head _)))
  case kd => ktr_room
  case ku => ktr_units
  intro r' tl' h'' tk'' F'' N'' hp'
  subst hp'
  have N8 : News g L h'' _ := fun q hq => N'' q (List.mem_append_right tl' (.tail _ (.tail _ hq)))
  clear N'' F' N' d1 d2
  k_steps
  change wpAny _ _ _ _ _ _
  rename News _ _ _ _ => N9
  rename Fr _ _ _ _ => F9
  k_dflt (refine kla_eval rfl (kla_nest F9 N9 T C rfl (upd_tab hne l0 fun p hp => (hoff p hp).2.2.2.2.2.2) ?tr ?am rfl ?_))
  case tr => kn_triples
  case am => kn_among
  intro f c' oc vs t ctv h' tk' F' N' d1 d2 l1 l2
  (try dsimp only at N')
  clear F9 N9 l1 l2
  k_steps
  change wpAny _ _ _ _ _ _
  k_dflt (refine' SpecAt0.use (refused10 w g 203 201 C f c' (L + 1 + 1 + 1 + 1) (L + 1 + 1 + 1 + 1 + 1) pl _ _ _ _ oc oF oP vs t sf _ _ _ _ _ _ _ _ _ ?hf ?hc d1 d2 ?h1 ?h2 dF dP) K X T F' X N' T rfl ?kd ?ku ?_)
  case hf => exact List.Mem.head _
  case hc => exact .tail _ (.head _)
  case h1 => exact .tail _ (.tail _ (.tail _ (.tail _ (.head _))))
  case h2 => exact .tail _ (.tail _ (.tail _ (.head _)))
  case kd => ktr_room
  case ku => ktr_units
  intro r' tl' h'' tk'' F'' N'' hp'
  subst hp'
  have N8 : News g L h'' _ := fun q hq => N'' q (List.mem_append_right tl' (.tail _ (.tail _ hq)))
  clear N'' F' N' d1 d2
  k_steps
  change wpAny _ _ _ _ _ _
  rename News _ _ _ _ => N9
  rename Fr _ _ _ _ => F9
  (try dsimp only)
  with_unfolding_all show LawAt w L fa 15 Q E _
  exact @stageL w g L fa src lr lb pl lo lm lz p loose mean mg mb Q E _ m o oS oW oT oF oP wd ht zw zh top u0 u1 m0 m1 tt tw sf R led _ cx0 hQ ho hne hoff hR hB hPl hr po pm pz e0 e1 k0 k1 g0 g1 hz1 hz2 hz3 hz4 F9 N9 dP dF dT dW dS hw2 hh2 ht1 ht2
end StageKk
theorem off_StJj : True := by w_top off; trivial
section StageJj
local macro_rules | `(tactic| walk_at "pad") => `(tactic| skip)
local macro_rules | `(tactic| k_mem) => `(tactic| k_dflt (first | assumption | exact List.Mem.head _ | (refine List.Mem.tail _ ?_; k_mem) | (refine List.mem_append_right _ ?_; k_mem) | (refine List.mem_append_left _ ?_; k_mem)))
section
variable {prog : Program} {w : World} {A : Around} {E : Value → Shared → Prop} {s : Shared} {h₀ : Heap} {L a b : Addr} {news n₁ n₂ : Led} {R : List (List Int)} {r : List Int} {Q : Value → Shared → Prop}
theorem ints_ne (N : News h₀ L s.heap news) (ha : IntsIn n₁ (.ref a) r) (sa : ∀ p ∈ n₁, p ∈ news) (hb : IntsIn n₂ (.ref b) r) (sb : ∀ p ∈ n₂, p ∈ news) (hu : A.units + 64 < cLine) (h : Q (.bool false) s) : wpAny (model prog w) A (compareOp .NotEq (.ref a) (.ref b)) Q E s := by
  obtain ⟨_, xs, ka, e1, hm1, hd1⟩ := ha.open
  obtain ⟨_, ys, kb, e2, hm2, hd2⟩ := hb.open
  cases e1; cases e2
  exact ke_ne_ints ⟨_, (N _ (sa _ hm1)).1, rfl, ka, rfl⟩ ⟨_, (N _ (sb _ hm2)).1, rfl, kb, rfl⟩ hd1 hd2 hu (by simpa using h)
end
local macro_rules | `(tactic| walk_at "compareOp NotEq ref ref") => `(tactic| (k_here; (with_reducible show wpAny _ _ (compareOp CmpOp.NotEq (Value.ref _) (Value.ref _)) _ _ _); k_dflt (first
  | (refine' rows_ne ?N ?a ?sa ?b ?sb ?u ?_; (case N => k_asm); (case a => with_reducible assumption); (case b => with_reducible assumption); (case sa => kcj_all); (case sb => kcj_all); (case u => ktr_units))
  | (refine' ints_ne ?N ?a ?sa ?b ?sb ?u ?_; (case N => k_asm); (case a => with_reducible assumption); (case b => with_reducible assumption); (case sa => kcj_all); (case sb => kcj_all); (case u => ktr_units)))))
local macro_rules | `(tactic| walk_at "call ref") => `(tactic| (k_here; ktr_call (doubled_spec _ _ _ _ _ ?h1 ?h2 ?h3) 145; (case h1 => first | assumption | exact IntsIn.mono (by assumption) (by kcj_all)); (case h2 => first | assumption | rfl); (case h3 => omega); intro r' tl' h' tk' F' N' hl' hp'; obtain ⟨a', ys', k', e1', e2', hI'⟩ := hp'; subst e1'; subst e2'; have hq' := IntsIn.of (news := [(a', listOf ys'.toArray k')]) (List.Mem.head _) hI'; (try simp only [List.cons_append, List.nil_append] at N'); (try dsimp only); (try k_sweep); (try k_fold)))
local macro_rules | `(tactic| walk_at "execs cons") => `(tactic| (k_here; (with_reducible show wpAny _ _ (execs (Stmt.If _ _ _ _ :: _) _) _ _ _); refine Stop.out ?_))
set_option maxRecDepth 100000 in
set_option maxHeartbeats 2000000 in
theorem stageJ {w : World} {g : Heap} {L fa src lr lb pl lo lm lz lv ld : Addr} {p : Program} {loose : List Str} {mean : ExcName → Option Value} {mg mb : Str → Option Value} {Q : Flow → Shared → Prop} {E : Value → Shared → Prop} {s : Shared} {m : Str → Option Value} {o oS oW oT oF oP : Obj} {wd ht zw zh : Nat} {top u0 u1 m0 m1 : Int} {tt tw : Tok} {sf : Bool} {R : List (List Int)} {V : List Int} {led : Led}
    (cx : LawCtx w g L fa p loose mean mg mb E) (hQ : LawEnd g L Q s) (ho : SrcOk o) (hne : SrcNe src L) (hoff : LawOff src L led) (hR : RowsIn led (.ref lr) R) (hB : RowsIn led (.ref lb) R) (hPl : PlaneOb w led pl wd ht lr) (hr : Rect R wd ht)
    (po : PairIn led lo u0 u1) (pm : PairIn led lm m0 m1) (pz : PairIn led lz zw zh) (e0 : 1 ≤ u0) (e1 : 1 ≤ u1) (k0 : u0 ≤ m0) (k1 : u1 ≤ m1) (g0 : m0 ≤ 3) (g1 : m1 ≤ 3) (hz1 : 1 ≤ zw) (hz2 : zw ≤ 9) (hz3 : 1 ≤ zh) (hz4 : zh ≤ 9)
    (hV : IntsIn led (.ref lv) V) (hVl : V.length < 7) (hD : IntsIn led (.ref ld) (doubledRow V 1 1 2))
    (F : Fr g L s.heap (fun z => if z = Str.ofString "due" then some (.ref ld) else if z = Str.ofString "values" then some (.ref lv) else if z = Str.ofString "size" then some (.ref lz) else if z = Str.ofString "own" then some (.ref lo) else if z = Str.ofString "most" then some (.ref lm) else if z = Str.ofString "before" then some (.ref lb) else if z = Str.ofString "rows" then some (.ref lr) else m z)) (N : News g L s.heap ((src, o) :: (L + 1 + 1 + 1 + 1 + 1, oP) :: (L + 1 + 1 + 1 + 1, oF) :: (L + 1 + 1 + 1, oT) :: (L + 1 + 1, oW) :: (L + 1, oS) :: (201, tabObj #[]) :: led))
    (dP : oP.data = .cell (some (.ref pl))) (dF : oF.data = .cell (some (.bool sf))) (dT : oT.data = .cell (some (.int top tt))) (dW : oW.data = .cell (some (.int wd tw))) (dS : oS.data = .cell (some (.ref src)))
    (hw2 : wd ≤ 4) (hh2 : ht ≤ 3) (ht1 : 0 < top) (ht2 : top < 1000) :
    LawAt w L fa 13 Q E s  := by
  have cx0 := cx
  obtain ⟨X, T, K, C, l0, hE⟩ := cx
  unfold LawAt
  k_dflt (show wpAny _ (Around.deeper callerA (envOfC _ ⟨_, _, _, _, _⟩ _ _ _)) (execs (_ :: _) (envOfC _ ⟨_, _, _, _, _⟩ _ _ _)) _ _ _)
  obtain ⟨n, hVn⟩ : ∃ n, V.length = n := ⟨_, rfl⟩
  obtain ⟨dx9, t9, u9, ka9, kb9, kc9, mo1, mo2⟩ := id hPl
  refine wpAny_execs_cons ?_
  k_steps
  change wpAny _ _ _ _ _ _
  rename News _ _ _ _ => N9
  rename Fr _ _ _ _ => F9
  have N8 : News g L _ _ := fun p hp => N9 p (.tail _ hp)
  have F8 := fr_split (x := Str.ofString "size") (v := .ref lz) (fr_split (x := Str.ofString "own") (v := .ref lo) (fr_split (x := Str.ofString "most") (v := .ref lm) (fr_split (x := Str.ofString "before") (v := .ref lb) (fr_split (x := Str.ofString "rows") (v := .ref lr) F9 rfl) rfl) rfl) rfl) rfl
  (try dsimp only)
  with_unfolding_all show LawAt w L fa 14 Q E _
  exact @stageK w g L fa src lr lb pl lo lm lz p loose mean mg mb Q E _ _ o oS oW oT oF oP wd ht zw zh top u0 u1 m0 m1 tt tw sf R led cx0 hQ ho hne hoff hR hB hPl hr po pm pz e0 e1 k0 k1 g0 g1 hz1 hz2 hz3 hz4 F8 N8 dP dF dT dW dS hw2 hh2 ht1 ht2
end StageJj
theorem off_StIi : True := by w_top off; trivial
section StageIi
local macro_rules | `(tactic| walk_at "call ref") => `(tactic| (k_here; (with_reducible show wpAny _ _ (call (Value.ref 187) _) _ _ _); refine Stop.out ?_))
local macro_rules | `(tactic| walk_at "execs cons") => `(tactic| (k_here; (with_reducible show wpAny _ _ (execs (Stmt.If _ _ _ _ :: _) _) _ _ _); refine Stop.out ?_))
set_option maxRecDepth 100000 in
set_option maxHeartbeats 2000000 in
theorem stageI {w : World} {g : Heap} {L fa src lr lb pl lo lm lz lv : Addr} {p : Program} {loose : List Str} {mean : ExcName → Option Value} {mg mb : Str → Option Value} {Q : Flow → Shared → Prop} {E : Value → Shared → Prop} {s : Shared} {m : Str → Option Value} {o oS oW oT oF oP : Obj} {wd ht zw zh : Nat} {top u0 u1 m0 m1 : Int} {tt tw : Tok} {sf : Bool} {R : List (List Int)} {V : List Int} {led : Led}
    (cx : LawCtx w g L fa p loose mean mg mb E) (hQ : LawEnd g L Q s) (ho : SrcOk o) (hne : SrcNe src L) (hoff : LawOff src L led) (hR : RowsIn led (.ref lr) R) (hB : RowsIn led (.ref lb) R) (hPl : PlaneOb w led pl wd ht lr) (hr : Rect R wd ht)
    (po : PairIn led lo u0 u1) (pm : PairIn led lm m0 m1) (pz : PairIn led lz zw zh) (e0 : 1 ≤ u0) (e1 : 1 ≤ u1) (k0 : u0 ≤ m0) (k1 : u1 ≤ m1) (g0 : m0 ≤ 3) (g1 : m1 ≤ 3) (hz1 : 1 ≤ zw) (hz2 : zw ≤ 9) (hz3 : 1 ≤ zh) (hz4 : zh ≤ 9)
    (hV : IntsIn led (.ref lv) V) (hVl : V.length < 7)
    (F : Fr g L s.heap (fun z => if z = Str.ofString "values" then some (.ref lv) else if z = Str.ofString "size" then some (.ref lz) else if z = Str.ofString "own" then some (.ref lo) else if z = Str.ofString "most" then some (.ref lm) else if z = Str.ofString "before" then some (.ref lb) else if z = Str.ofString "rows" then some (.ref lr) else m z)) (N : News g L s.heap ((src, o) :: (L + 1 + 1 + 1 + 1 + 1, oP) :: (L + 1 + 1 + 1 + 1, oF) :: (L + 1 + 1 + 1, oT) :: (L + 1 + 1, oW) :: (L + 1, oS) :: (201, tabObj #[]) :: led))
    (dP : oP.data = .cell (some (.ref pl))) (dF : oF.data = .cell (some (.bool sf))) (dT : oT.data = .cell (some (.int top tt))) (dW : oW.data = .cell (some (.int wd tw))) (dS : oS.data = .cell (some (.ref src)))
    (hw2 : wd ≤ 4) (hh2 : ht ≤ 3) (ht1 : 0 < top) (ht2 : top < 1000) :
    LawAt w L fa 11 Q E s  := by
  have cx0 := cx
  obtain ⟨X, T, K, C, l0, hE⟩ := cx
  unfold LawAt
  k_dflt (show wpAny _ (Around.deeper callerA (envOfC _ ⟨_, _, _, _, _⟩ _ _ _)) (execs (_ :: _) (envOfC _ ⟨_, _, _, _, _⟩ _ _ _)) _ _ _)
  obtain ⟨n, hVn⟩ : ∃ n, V.length = n := ⟨_, rfl⟩
  k_steps
  change wpAny _ _ _ _ _ _
  rename_i lx b1 l1 b2 F0 N0 b3 b4 b5 b6 b7 hr9 F9 N9 ha
  have lall := allLt_mem (show AllLt lx ((src, o) :: (L + 1 + 1 + 1 + 1 + 1, oP) :: (L + 1 + 1 + 1 + 1, oF) :: (L + 1 + 1 + 1, oT) :: (L + 1 + 1, oW) :: (L + 1, oS) :: (201, tabObj #[]) :: led) from l1)
  have e2 : (2 : Int) * (n : Int) = ((2 * n : Nat) : Int) := by omega
  rw [e2] at hr9
  refine grow_loopC (σ := Unit) (fun _ => []) (fun _ => True) [] () [Str.ofString "at"] (fun i _ ys => IntsAre ys ((List.range i).map fun (k : Nat) => softF [V] n 1 (k : Int) 0 2 1)) rfl hr9 (by omega) F9 N9 (fun _ => rfl) trivial (fun p hp => ⟨Nat.ne_of_lt (lall p hp), fun h => nomatch h⟩) .nil (fun _ _ => rfl) ?_ ?_
  · intro i t u ys k rest own c s₁ hi hit hb hc hD hA F2 N2
    simp only [List.nil_append] at N2
    replace F2 : Fr g L s₁.heap _ := F2
    replace N2 : News g L s₁.heap _ := N2
    clear hr9 F9 N9
    have hlen : ys.length = i := by rw [hit.length]; simp
    have hV1 : IntsIn (rest ++ own) (.ref lv) V := hV.mono fun p hp => List.mem_append_left _ (hb _ (law_tail7 hp))
    k_steps
    change wpAny _ _ _ _ _ _
    rename News _ _ _ _ => N8
    rename Fr _ _ _ _ => F8
    have hr1 : Rect [V] n 1 := ⟨by omega, by decide, by omega, by decide, rfl, fun r hr => by rw [List.mem_singleton.mp hr]; exact hVn⟩
    k_dflt (refine SpecAt.use (soft_spec w _ [V] n 1 i _ 0 _ 2 1 _ _ _ (RowsIn.of (vs := [Value.ref lv]) (.head _) (.cons (hV1.mono fun p hp => .tail _ (.tail _ hp)) .nil)) hr1) K F8 X N8 T rfl ?kd ?ku ?_)
    case kd => ktr_room
    case ku => ktr_units
    clear N8 F8
    intro r' tl' h' tk' F' N' hl' hp'
    obtain ⟨rfl, t', rfl⟩ := hp'
    simp only [List.nil_append] at N'
    (try dsimp only)
    k_steps
    rename News _ _ _ _ => N8
    rename Fr _ _ _ _ => F8
    simp only [List.push_toArray] at N8
    (try dsimp only)
    refine TurnC.intro (c := ()) [] _ _ F8 N8 trivial (fun p hp => .tail _ hp) (fun _ h => nomatch h) ?_ (fun z hz => ?_)
    · rw [List.range_succ, List.map_append]; exact IntsAre.append hit (.cons _ _ .nil)
    · have h3 : z ≠ Str.ofString "at" := by rintro rfl; exact absurd hz (by decide)
      simp only [if_neg h3, hz]; rfl
  · intro ys k rest c u h tk hit hb hc hD F1 N1
    clear hr9 F9 N9
    replace F1 : Fr g L h _ := F1
    replace N1 : News g L h _ := N1
    simp only [List.nil_append] at N1
    k_steps
    change wpAny _ _ _ _ _ _
    have N8 : News g L h ((src, o) :: (L + 1 + 1 + 1 + 1 + 1, oP) :: (L + 1 + 1 + 1 + 1, oF) :: (L + 1 + 1 + 1, oT) :: (L + 1 + 1, oW) :: (L + 1, oS) :: (201, tabObj #[]) :: ((lx, listOf ys.toArray k) :: led)) := fun p hp => N1 p (by
      simp only [List.mem_cons] at hp
      rcases hp with h | h | h | h | h | h | h | h | h
      · exact .tail _ (hb _ (by rw [h]; exact .head _))
      · exact .tail _ (hb _ (by rw [h]; exact .tail _ (.head _)))
      · exact .tail _ (hb _ (by rw [h]; exact .tail _ (.tail _ (.head _))))
      · exact .tail _ (hb _ (by rw [h]; exact .tail _ (.tail _ (.tail _ (.head _)))))
      · exact .tail _ (hb _ (by rw [h]; exact .tail _ (.tail _ (.tail _ (.tail _ (.head _))))))
      · exact .tail _ (hb _ (by rw [h]; exact .tail _ (.tail _ (.tail _ (.tail _ (.tail _ (.head _)))))))
      · exact .tail _ (hb _ (by rw [h]; exact .tail _ (.tail _ (.tail _ (.tail _ (.tail _ (.tail _ (.head _))))))))
      · rw [h]; exact .head _
      · exact .tail _ (hb _ (law_tail7 h)))
    have off9 : LawOff src L ((lx, listOf ys.toArray k) :: led) := LawOff.cons (law_newer fun q hq => Nat.ne_of_lt (lall q hq)) hoff
    have hs2 : ∀ p ∈ led, p ∈ (lx, listOf ys.toArray k) :: led := fun p hp => .tail _ hp
    have hD9 : IntsIn ((lx, listOf ys.toArray k) :: led) (.ref lx) (doubledRow V 1 1 2) := by
      rw [doubled_is V n hVn (by omega)]
      exact IntsIn.of (.head _) hit
    have F8 := fr_split (x := Str.ofString "due") (v := .ref lx) (fr_split (x := Str.ofString "values") (v := .ref lv) (fr_split (x := Str.ofString "size") (v := .ref lz) (fr_split (x := Str.ofString "own") (v := .ref lo) (fr_split (x := Str.ofString "most") (v := .ref lm) (fr_split (x := Str.ofString "before") (v := .ref lb) (fr_split (x := Str.ofString "rows") (v := .ref lr) F1 rfl) rfl) rfl) rfl) rfl) rfl) rfl
    (try dsimp only)
    with_unfolding_all show LawAt w L fa 13 Q E _
    exact @stageJ w g L fa src lr lb pl lo lm lz lv lx p loose mean mg mb Q E _ _ o oS oW oT oF oP wd ht zw zh top u0 u1 m0 m1 tt tw sf R V ((lx, listOf ys.toArray k) :: led) cx0 hQ ho hne off9 (hR.mono hs2) (hB.mono hs2) (hPl.mono hs2) hr (po.mono hs2) (pm.mono hs2) (pz.mono hs2) e0 e1 k0 k1 g0 g1 hz1 hz2 hz3 hz4 (hV.mono hs2) hVl hD9 F8 N8 dP dF dT dW dS hw2 hh2 ht1 ht2
end StageIi
theorem off_StHh : True := by w_top off; trivial
section StageHh
local macro_rules | `(tactic| walk_at "call ref") => `(tactic| (k_here; (with_reducible show wpAny _ _ (call (Value.ref 159) _) _ _ _); refine Stop.out ?_))
local macro_rules | `(tactic| walk_at "CompEnd") => `(tactic| refine Stop.out ?_)
local macro_rules | `(tactic| walk_at "CompSrc") => `(tactic| refine Stop.out ?_)
set_option maxRecDepth 100000 in
set_option maxHeartbeats 2000000 in
theorem stageH {w : World} {g : Heap} {L fa src lr lb pl lo lm lz : Addr} {p : Program} {loose : List Str} {mean : ExcName → Option Value} {mg mb : Str → Option Value} {Q : Flow → Shared → Prop} {E : Value → Shared → Prop} {s : Shared} {m : Str → Option Value} {o oS oW oT oF oP : Obj} {wd ht zw zh : Nat} {top u0 u1 m0 m1 : Int} {tt tw : Tok} {sf : Bool} {R : List (List Int)} {led : Led}
    (cx : LawCtx w g L fa p loose mean mg mb E) (hQ : LawEnd g L Q s) (ho : SrcOk o) (hne : SrcNe src L) (hoff : LawOff src L led) (hR : RowsIn led (.ref lr) R) (hB : RowsIn led (.ref lb) R) (hPl : PlaneOb w led pl wd ht lr) (hr : Rect R wd ht)
    (po : PairIn led lo u0 u1) (pm : PairIn led lm m0 m1) (pz : PairIn led lz zw zh) (e0 : 1 ≤ u0) (e1 : 1 ≤ u1) (k0 : u0 ≤ m0) (k1 : u1 ≤ m1) (g0 : m0 ≤ 3) (g1 : m1 ≤ 3) (hz1 : 1 ≤ zw) (hz2 : zw ≤ 9) (hz3 : 1 ≤ zh) (hz4 : zh ≤ 9)
    (F : Fr g L s.heap (fun z => if z = Str.ofString "size" then some (.ref lz) else if z = Str.ofString "own" then some (.ref lo) else if z = Str.ofString "most" then some (.ref lm) else if z = Str.ofString "before" then some (.ref lb) else if z = Str.ofString "rows" then some (.ref lr) else m z)) (N : News g L s.heap ((src, o) :: (L + 1 + 1 + 1 + 1 + 1, oP) :: (L + 1 + 1 + 1 + 1, oF) :: (L + 1 + 1 + 1, oT) :: (L + 1 + 1, oW) :: (L + 1, oS) :: (201, tabObj #[]) :: led))
    (dP : oP.data = .cell (some (.ref pl))) (dF : oF.data = .cell (some (.bool sf))) (dT : oT.data = .cell (some (.int top tt))) (dW : oW.data = .cell (some (.int wd tw))) (dS : oS.data = .cell (some (.ref src)))
    (hw2 : wd ≤ 4) (hh2 : ht ≤ 3) (ht1 : 0 < top) (ht2 : top < 1000) :
    LawAt w L fa 10 Q E s  := by
  have cx0 := cx
  obtain ⟨X, T, K, C, l0, hE⟩ := cx
  unfold LawAt
  k_dflt (show wpAny _ (Around.deeper callerA (envOfC _ ⟨_, _, _, _, _⟩ _ _ _)) (execs (_ :: _) (envOfC _ ⟨_, _, _, _, _⟩ _ _ _)) _ _ _)
  refine wpAny_execs_cons ?_
  k_dflt (refine LCg.Assign_ListComp_U (F₀ := by k_asm) (by rfl) (by with_unfolding_all rfl) (by with_unfolding_all rfl) (by decide) (by rfl) (by decide) (by rfl) (by rfl) (by rfl) ?_)
  k_steps
  change wpAny _ _ _ _ _ _
  rename News _ _ _ _ => N9
  rename Fr _ _ _ _ => F9
  k_dflt (refine SpecTo.use (take_at w src o 7 _ _ _ (upd_src hne fun p hp => (hoff p hp).1) ho (by decide) (by decide)) K F9 X N9 T rfl ?kd ?ku ?_)
  case kd => ktr_room
  case ku => ktr_units
  intro r' nw' h' tk' F' N' hp'
  obtain ⟨o1, rfl, ho1, d', t', rfl, hlo', hhi'⟩ := hp'
  obtain ⟨n, rfl⟩ : ∃ n : Nat, d' = (n : Int) := ⟨d'.toNat, by omega⟩
  (try dsimp only at N')
  clear F9 N9
  k_steps
  change LCg.CompSrc _ _ _ _ _ _ _ _ _ _ _ _ _ _
  rename IsRange _ _ _ _ _ _ _ _ => hr9
  rename Fr _ _ _ _ => F9
  rename News _ _ _ _ => N9
  refine LCg.CompSrc.range (n := n) rfl F9 N9 hr9 (small_one (by decide) (by decide) (by omega) (by omega)) (range_is n) (by rw [PySem.sizeLine_eq]; omega) (fun g9 => ?_)
  clear hr9 F9 N9
  refine comp_inv (n := n) (fun i ys news => ∃ o r, news = (src, o) :: (L + 1 + 1 + 1 + 1 + 1, oP) :: (L + 1 + 1 + 1 + 1, oF) :: (L + 1 + 1 + 1, oT) :: (L + 1 + 1, oW) :: (L + 1, oS) :: (201, tabObj #[]) :: led ∧ SrcOk o ∧ IntsAre ys r ∧ r.length = i) ?_ ?_ n 0 [] _ (by omega) ⟨o1, [], rfl, ho1, .nil, rfl⟩
  · intro i2 ys2 news2 v2 J2 oJ2 C2 oC2 D2 m₃ h2 tk2 E2 hi2 hI2 hP2 hC2 hx2 F3 N3 off2 ne2
    obtain ⟨o2, r, rfl, ho2, hI3, hl2⟩ := hI2
    have offU := off2
    simp only [LCg.Off3] at offU
    obtain ⟨⟨b1, b2, b3⟩, -⟩ := offU
    k_steps
    change wpAny _ _ _ _ _ _
    rename News _ _ _ _ => N9
    rename Fr _ _ _ _ => F9
    k_dflt (refine SpecTo.use (take_at w src o2 top tt _ _ (UpdF.tail (Ne.symm b1) (UpdF.tail (Ne.symm b2) (UpdF.tail (Ne.symm b3) (upd_src hne fun p hp => (hoff p hp).1)))) ho2 ht1 (by omega)) K F9 X N9 T rfl ?kd ?ku ?_)
    case kd => ktr_room
    case ku => ktr_units
    intro r' nw' h' tk' F' N' hp'
    obtain ⟨o', rfl, hO', d', t', rfl, hlo', hhi'⟩ := hp'
    refine LCg.CompEnd.intro F' N' _ (fun p hp => hp) off2 trivial ⟨o', r ++ [d'], rfl, hO', IntsAre.append hI3 (.cons _ _ .nil), by rw [List.length_append, hl2]; rfl⟩
  · rintro ys2 news2 ⟨o2, r, rfl, ho2, hI3, hl2⟩
    intro D2 h3 tk3 F3 N3 off2
    have offV := off2
    simp only [LCg.Off1] at offV
    obtain ⟨a4, a5, a6, a7, a8, a9, a10, a11⟩ := offV
    have off9 : LawOff src L ((D2, LCg.lst ys2) :: led) := LawOff.cons ⟨Ne.symm a4, Ne.symm a5, Ne.symm a6, Ne.symm a7, Ne.symm a8, Ne.symm a9, Ne.symm a10⟩ hoff
    have hs2 : ∀ p ∈ led, p ∈ (D2, LCg.lst ys2) :: led := fun p hp => .tail _ hp
    have N8 : News g L h3 ((src, o2) :: (L + 1 + 1 + 1 + 1 + 1, oP) :: (L + 1 + 1 + 1 + 1, oF) :: (L + 1 + 1 + 1, oT) :: (L + 1 + 1, oW) :: (L + 1, oS) :: (201, tabObj #[]) :: (D2, LCg.lst ys2) :: led) := fun p hp => N3 p (by revert p; kcj_all)
    have hV : IntsIn ((D2, LCg.lst ys2) :: led) (.ref D2) r := IntsIn.of (n := ys2.length) (.head _) hI3
    (try dsimp only)
    with_unfolding_all show LawAt w L fa 11 Q E _
    exact @stageI w g L fa src lr lb pl lo lm lz D2 p loose mean mg mb Q E _ m o2 oS oW oT oF oP wd ht zw zh top u0 u1 m0 m1 tt tw sf R r ((D2, LCg.lst ys2) :: led) cx0 hQ ho2 hne off9 (hR.mono hs2) (hB.mono hs2) (hPl.mono hs2) hr (po.mono hs2) (pm.mono hs2) (pz.mono hs2) e0 e1 k0 k1 g0 g1 hz1 hz2 hz3 hz4 hV (by omega) F3 N8 dP dF dT dW dS hw2 hh2 ht1 ht2
end StageHh
theorem off_StGg : True := by w_top off; trivial
section StageGg
local macro_rules | `(tactic| k_mem) => `(tactic| k_dflt (first | assumption | exact List.Mem.head _ | (refine List.Mem.tail _ ?_; k_mem) | (refine List.mem_append_right _ ?_; k_mem) | (refine List.mem_append_left _ ?_; k_mem)))
local macro_rules | `(tactic| walk_at "compareOp NotEq ref ref") => `(tactic| (k_here; (with_reducible show wpAny _ _ (compareOp CmpOp.NotEq (Value.ref _) (Value.ref _)) _ _ _); k_dflt (refine' rows_ne ?N ?a ?sa ?b ?sb ?u ?_; (case N => k_asm); (case a => with_reducible assumption); (case b => with_reducible assumption); (case sa => kcj_all); (case sb => kcj_all); (case u => ktr_units))))
local macro_rules | `(tactic| walk_at "execs cons") => `(tactic| (k_here; (with_reducible show wpAny _ _ (execs (Stmt.Assign [Expr.Name (Str.ofString "values") _] _ _ :: _) _) _ _ _); refine Stop.out ?_))
set_option maxRecDepth 100000 in
set_option maxHeartbeats 3000000 in
theorem stageG {w : World} {g : Heap} {L fa src lr lb pl lo lm lz fo : Addr} {p : Program} {loose : List Str} {mean : ExcName → Option Value} {mg mb : Str → Option Value} {Q : Flow → Shared → Prop} {E : Value → Shared → Prop} {s : Shared} {m : Str → Option Value} {o oS oW oT oF oP : Obj} {wd ht zw zh : Nat} {top u0 u1 m0 m1 : Int} {tt tw : Tok} {sf : Bool} {R : List (List Int)} {led : Led}
    (cx : LawCtx w g L fa p loose mean mg mb E) (hQ : LawEnd g L Q s) (ho : SrcOk o) (hne : SrcNe src L) (hoff : LawOff src L led) (hR : RowsIn led (.ref lr) R) (hB : RowsIn led (.ref lb) R) (hPl : PlaneOb w led pl wd ht lr) (hr : Rect R wd ht)
    (po : PairIn led lo u0 u1) (pm : PairIn led lm m0 m1) (pz : PairIn led lz zw zh) (e0 : 1 ≤ u0) (e1 : 1 ≤ u1) (k0 : u0 ≤ m0) (k1 : u1 ≤ m1) (g0 : m0 ≤ 3) (g1 : m1 ≤ 3) (hz1 : 1 ≤ zw) (hz2 : zw ≤ 9) (hz3 : 1 ≤ zh) (hz4 : zh ≤ 9)
    (hFo : PlaneIn w led fo zw zh (dueR R wd ht u0 u1 m0 m1 sf zw zh))
    (F : Fr g L s.heap (fun z => if z = Str.ofString "found" then some (.ref fo) else if z = Str.ofString "size" then some (.ref lz) else if z = Str.ofString "own" then some (.ref lo) else if z = Str.ofString "most" then some (.ref lm) else if z = Str.ofString "before" then some (.ref lb) else if z = Str.ofString "rows" then some (.ref lr) else m z)) (N : News g L s.heap ((src, o) :: (L + 1 + 1 + 1 + 1 + 1, oP) :: (L + 1 + 1 + 1 + 1, oF) :: (L + 1 + 1 + 1, oT) :: (L + 1 + 1, oW) :: (L + 1, oS) :: (201, tabObj #[]) :: led))
    (dP : oP.data = .cell (some (.ref pl))) (dF : oF.data = .cell (some (.bool sf))) (dT : oT.data = .cell (some (.int top tt))) (dW : oW.data = .cell (some (.int wd tw))) (dS : oS.data = .cell (some (.ref src)))
    (hw2 : wd ≤ 4) (hh2 : ht ≤ 3) (ht1 : 0 < top) (ht2 : top < 1000) :
    LawAt w L fa 9 Q E s  := by
  have cx0 := cx
  obtain ⟨X, T, K, C, l0, hE⟩ := cx
  unfold LawAt
  k_dflt (show wpAny _ (Around.deeper callerA (envOfC _ ⟨_, _, _, _, _⟩ _ _ _)) (execs (_ :: _) (envOfC _ ⟨_, _, _, _, _⟩ _ _ _)) _ _ _)
  obtain ⟨dx9, t9, u9, ka9, kb9, kc9, lf, mo1, mo2, hRf⟩ := id hFo
  obtain ⟨q5, q6, nz, hmz⟩ := id pz
  k_steps
  change wpAny _ _ _ _ _ _
  rename News _ _ _ _ => N9
  rename Fr _ _ _ _ => F9
  rename ∀ q : Addr × Obj, q ∈ _ → ∀ x : Addr × Obj, x ∈ _ → @Ne Nat q.1 x.1 => hl9
  obtain ⟨led9, hs1, hs2, off9, N8⟩ := law_front (fun p hp => N9 p (.tail _ hp)) hl9 hoff
  have F8 := fr_split (x := Str.ofString "size") (v := .ref lz) (fr_split (x := Str.ofString "own") (v := .ref lo) (fr_split (x := Str.ofString "most") (v := .ref lm) (fr_split (x := Str.ofString "before") (v := .ref lb) (fr_split (x := Str.ofString "rows") (v := .ref lr) F9 rfl) rfl) rfl) rfl) rfl
  (try dsimp only)
  with_unfolding_all show LawAt w L fa 10 Q E _
  exact @stageH w g L fa src lr lb pl lo lm lz p loose mean mg mb Q E _ _ o oS oW oT oF oP wd ht zw zh top u0 u1 m0 m1 tt tw sf R led9 cx0 hQ ho hne off9 (hR.mono hs2) (hB.mono hs2) (hPl.mono hs2) hr (po.mono hs2) (pm.mono hs2) (pz.mono hs2) e0 e1 k0 k1 g0 g1 hz1 hz2 hz3 hz4 F8 N8 dP dF dT dW dS hw2 hh2 ht1 ht2
end StageGg
theorem off_StFf : True := by w_top off; trivial
section StageFf
local macro_rules | `(tactic| k_mem) => `(tactic| k_dflt (first | assumption | exact List.Mem.head _ | (refine List.Mem.tail _ ?_; k_mem) | (refine List.mem_append_right _ ?_; k_mem) | (refine List.mem_append_left _ ?_; k_mem)))
local macro_rules | `(tactic| walk_at "subscriptTail Name Constant ref int") => `(tactic| (k_here; k_dflt (refine' item_tupleT ?t ?a ?b ?c ?d ?_; (case t => exact News.isTup (by k_asm) (by k_mem)); (case a => decide); (case b => decide); (case c => rfl); (case d => rfl); k_whole)))
local macro_rules | `(tactic| walk_at "call ref") => `(tactic| (k_here; ktr_call (grown_to_spec _ _ _ _ _ _ _ _ _ _ _ _ _ _ _ _ _ _ _ ?h1 ?h2 ?h3 ?h4 ?e0 ?e1 ?k0 ?k1 ?g0 ?g1 ?hw ?hh) 119; (case h1 => first | assumption | exact PlaneIn.mono (by assumption) (by kcj_all)); (case h2 => assumption); (case h3 => omega); (case h4 => omega); (case e0 => omega); (case e1 => omega); (case k0 => omega); (case k1 => omega); (case g0 => omega); (case g1 => omega); (case hw => omega); (case hh => omega); intro r' tl' h' tk' F' N' hl' hp'; obtain ⟨a', e1', hP'⟩ := hp'; subst e1'; (try dsimp only); (try k_sweep); (try k_fold)))
local macro_rules | `(tactic| walk_at "execs cons") => `(tactic| (k_here; (with_reducible show wpAny _ _ (execs (Stmt.If _ _ _ _ :: _) _) _ _ _); refine Stop.out ?_))
set_option maxRecDepth 100000 in
set_option maxHeartbeats 2000000 in
theorem stageF {w : World} {g : Heap} {L fa src lr lb pl lo lm lz : Addr} {p : Program} {loose : List Str} {mean : ExcName → Option Value} {mg mb : Str → Option Value} {Q : Flow → Shared → Prop} {E : Value → Shared → Prop} {s : Shared} {m : Str → Option Value} {o oS oW oT oF oP : Obj} {wd ht zw zh : Nat} {top u0 u1 m0 m1 : Int} {tt tw : Tok} {sf : Bool} {R : List (List Int)} {led : Led}
    (cx : LawCtx w g L fa p loose mean mg mb E) (hQ : LawEnd g L Q s) (ho : SrcOk o) (hne : SrcNe src L) (hoff : LawOff src L led) (hR : RowsIn led (.ref lr) R) (hB : RowsIn led (.ref lb) R) (hPl : PlaneOb w led pl wd ht lr) (hr : Rect R wd ht)
    (po : PairIn led lo u0 u1) (pm : PairIn led lm m0 m1) (pz : PairIn led lz zw zh) (e0 : 1 ≤ u0) (e1 : 1 ≤ u1) (k0 : u0 ≤ m0) (k1 : u1 ≤ m1) (g0 : m0 ≤ 3) (g1 : m1 ≤ 3) (hz1 : 1 ≤ zw) (hz2 : zw ≤ 9) (hz3 : 1 ≤ zh) (hz4 : zh ≤ 9)
    (F : Fr g L s.heap (fun z => if z = Str.ofString "size" then some (.ref lz) else if z = Str.ofString "own" then some (.ref lo) else if z = Str.ofString "most" then some (.ref lm) else if z = Str.ofString "before" then some (.ref lb) else if z = Str.ofString "rows" then some (.ref lr) else m z)) (N : News g L s.heap ((src, o) :: (L + 1 + 1 + 1 + 1 + 1, oP) :: (L + 1 + 1 + 1 + 1, oF) :: (L + 1 + 1 + 1, oT) :: (L + 1 + 1, oW) :: (L + 1, oS) :: (201, tabObj #[]) :: led))
    (dP : oP.data = .cell (some (.ref pl))) (dF : oF.data = .cell (some (.bool sf))) (dT : oT.data = .cell (some (.int top tt))) (dW : oW.data = .cell (some (.int wd tw))) (dS : oS.data = .cell (some (.ref src)))
    (hw2 : wd ≤ 4) (hh2 : ht ≤ 3) (ht1 : 0 < top) (ht2 : top < 1000) :
    LawAt w L fa 8 Q E s  := by
  have cx0 := cx
  obtain ⟨X, T, K, C, l0, hE⟩ := cx
  unfold LawAt
  k_dflt (show wpAny _ (Around.deeper callerA (envOfC _ ⟨_, _, _, _, _⟩ _ _ _)) (execs (_ :: _) (envOfC _ ⟨_, _, _, _, _⟩ _ _ _)) _ _ _)
  have hP0 : PlaneIn w led pl wd ht R := hPl.with hR (fun _ h => h) (fun _ h => h)
  obtain ⟨q1, q2, nq, hmo⟩ := id po
  obtain ⟨q3, q4, nm, hmm⟩ := id pm
  obtain ⟨q5, q6, nz, hmz⟩ := id pz
  k_steps
  change wpAny _ _ _ _ _ _
  rename Addr => fo
  rename PlaneIn _ _ _ _ _ (dueR _ _ _ _ _ _ _ _ _ _) => hFo
  rename News _ _ _ _ => N9
  rename Fr _ _ _ _ => F9
  rename ∀ q : Addr × Obj, q ∈ _ → ∀ x : Addr × Obj, x ∈ _ → @Ne Nat q.1 x.1 => hl9
  obtain ⟨led9, hs1, hs2, off9, N8⟩ := law_front N9 hl9 hoff
  (try dsimp only)
  with_unfolding_all show LawAt w L fa 9 Q E _
  exact @stageG w g L fa src lr lb pl lo lm lz fo p loose mean mg mb Q E _ m o oS oW oT oF oP wd ht zw zh top u0 u1 m0 m1 tt tw sf R led9 cx0 hQ ho hne off9 (hR.mono hs2) (hB.mono hs2) (hPl.mono hs2) hr (po.mono hs2) (pm.mono hs2) (pz.mono hs2) e0 e1 k0 k1 g0 g1 hz1 hz2 hz3 hz4 (hFo.mono hs1) F9 N8 dP dF dT dW dS hw2 hh2 ht1 ht2
end StageFf
theorem off_StEe : True := by w_top off; trivial
section StageEe
local macro_rules | `(tactic| walk_at "pad") => `(tactic| skip)
section
variable {prog : Program} {w : World} {A : Around} {E : Value → Shared → Prop} {s : Shared} {h₀ : Heap} {L : Addr} {m : Str → Option Value} {news : Led}
/-- the greater of a pair's two ints -/
theorem max_pair {l : Addr} {x y : Int} {t u : Tok} {n : Nat} {Q : Value → Shared → Prop} (hh : A.handled = none) (F : Fr h₀ L s.heap m) (N : News h₀ L s.heap news) (hm : (l, ({ cls := .type "tuple", data := .seq #[.int x t, .int y u] n } : Obj)) ∈ news)
    (h : ∀ h' M (t : Tok) tk, Fr h₀ L h' m → News h₀ L h' news → x ≤ M → (M = x ∨ M = y) → Q (.int M t) { s with heap := h', toks := tk }) : wpAny (model prog w) A (call (.builtin "max") [.ref l]) Q E s := by
  have hI : intItems #[(x, t), (y, u)] = #[.int x t, .int y u] := by simp [intItems]
  have ht : s.heap.IsTuple l #[.int x t, .int y u] := ⟨_, (N _ hm).1, rfl, n, rfl⟩
  have hlt : l < s.heap.objs.size := Heap.lt_size (N _ hm).1
  refine call_max_walk (wpAny_pyIter_tuple ht ?_)
  have up : ∀ b o, s.heap.get? b = some o → (s.heap.push { cls := .type "tuple_iterator", data := .fields #[.ref l, .int 0 0] }).get? b = some o := fun b o e => Heap.get?_push_of_some _ e
  refine ⟨_, _, _, _, _, _, fun i j => decide (numAt #[(x, t), (y, u)] i > numAt #[(x, t), (y, u)] j), rfl, Walks.tuple (A := A.in1) hh _ l (Nat.ne_of_lt hlt) (intItems #[(x, t), (y, u)]), ⟨⟨_, Heap.get?_push_size _ rfl, rfl, rfl⟩, ⟨_, up _ _ (N _ hm).1, rfl, n, by rw [hI]⟩⟩, fun b hb => ?_, by rw [hI]; exact Nat.zero_lt_succ 1, CmpOf.ints_gt (numAt #[(x, t), (y, u)]) (fun _ _ => intItems_at), fun v h' tk hv hk => ?_⟩
  · show b < (s.heap.push _).objs.size
    rw [Heap.size_push]
    rcases List.mem_cons.mp hb with rfl | hb
    · exact Nat.lt_succ_self _
    · rw [List.mem_singleton.mp hb]; exact Nat.lt_succ_of_lt hlt
  have hk' : ∀ b o, s.heap.get? b = some o → h'.get? b = some o := fun b o e => hk b o (fun hm => by
    rw [List.mem_singleton.mp hm] at e; exact absurd (Heap.lt_size e) (Nat.lt_irrefl _)) (up b o e)
  obtain ⟨t', rfl⟩ := intItems_at hv
  have hs : (intItems #[(x, t), (y, u)]).size - 1 = 1 := by rw [hI]; rfl
  obtain ⟨h1, h2⟩ := argBest_gt (numAt #[(x, t), (y, u)]) 1
  rw [hs]
  generalize argBest (fun i j => decide (numAt #[(x, t), (y, u)] i > numAt #[(x, t), (y, u)] j)) 1 = b at h1 h2 ⊢
  refine h h' _ t' tk (F.keeps hk') (N.grown hk') (h2 0 (by omega)) ?_
  have hb : b = 0 ∨ b = 1 := by omega
  rcases hb with rfl | rfl
  · exact .inl rfl
  · exact .inr rfl
end
local macro_rules | `(tactic| walk_at "call builtin:max") => `(tactic| (k_here; (with_reducible show wpAny _ _ (call (Value.builtin "max") [Value.ref _]) _ _ _); k_dflt (refine' max_pair ?k0 ?k1 ?k2 ?k3 ?_; (case k0 => with_unfolding_all rfl); (case k1 => k_asm); (case k2 => k_asm); (case k3 => k_mem)); intro h' M' t' tk' F' N' ha' hb'; (try k_sweep)))
theorem pair_at (w : World) (src l : Addr) (o : Obj) (vs : List Value) (n : Nat) (news led : Led) (g : Obj → Led) (U : UpdF src o news g) (ho : SrcOk o) (hl : (l, listOf vs.toArray n) ∈ news) (hne : l ≠ src) (h0 : vs.length = 7) (hp : PairsAre led vs) :
    SpecTo w 166 2 24 news [.ref src, .ref l] (fun r nw => ∃ o', nw = g o' ∧ SrcOk o' ∧ ∃ a x y t u k, r = .ref a ∧ (a, ({ cls := .type "tuple", data := .seq #[.int x t, .int y u] k } : Obj)) ∈ led ∧ (1 ≤ x ∧ x ≤ 3) ∧ 1 ≤ y ∧ y ≤ 3) := by
  intro p loose mean mg mb dp un gd cn cs a₀ ccd cl outer A₀ base h₀ L m s Q E B F X N T hk hd hu hret
  refine (one_at w src l o vs n news g U ho hl hne (by omega) (by omega)).use B F X N T hk hd hu fun r nw h' tk' F' N' hp' => ?_
  obtain ⟨o', e1, hO, k, hk', hv⟩ := hp'
  obtain ⟨a, x, y, rfl, ⟨t, u, k, hm⟩, hx, hy⟩ := hp r (List.mem_of_getElem? hv)
  exact hret _ nw h' tk' F' N' ⟨o', e1, hO, a, x, y, t, u, k, rfl, hm, hx, hy⟩
local macro_rules | `(tactic| walk_at "call ref") => `(tactic| (k_here; (with_reducible show wpAny _ _ (call (Value.ref 166) _) _ _ _); k_dflt (refine' SpecTo.use (pair_at _ _ _ _ _ _ _ _ _ ?h1 ?h2 ?h3 ?h4 ?h5 ?h6) ?kB ?kF ?kX ?kN ?kT ?kk ?kd ?ku ?_); (case kB => k_asm); (case kF => k_asm); (case kX => k_asm); (case kN => k_asm); (case kT => k_asm); (case kk => first | exact rfl | assumption); (case kd => ktr_room); (case ku => ktr_units); (case h1 => k_dflt k_updF); (case h2 => assumption); (case h3 => k_dflt k_mem); (case h4 => assumption); (case h5 => assumption); (case h6 => assumption); intro r' nw' h' tk' F' N' hp'; obtain ⟨o', e1', hO', a', x', y', t', u', k', e2', hm', hx', hy'⟩ := hp'; subst e1'; subst e2'; (try dsimp only at N'); (try dsimp only); (try k_sweep); (try k_fold)))
local macro_rules | `(tactic| walk_at "execs cons") => `(tactic| (k_here; (with_reducible show wpAny _ _ (execs (Stmt.Assign [Expr.Name (Str.ofString "found") _] _ _ :: _) _) _ _ _); refine Stop.out ?_))
set_option maxRecDepth 100000 in
set_option maxHeartbeats 2000000 in
theorem stageE {w : World} {g : Heap} {L fa src lr lb pl lp : Addr} {p : Program} {loose : List Str} {mean : ExcName → Option Value} {mg mb : Str → Option Value} {Q : Flow → Shared → Prop} {E : Value → Shared → Prop} {s : Shared} {m : Str → Option Value} {o oS oW oT oF oP : Obj} {wd ht : Nat} {top : Int} {tt tw : Tok} {R : List (List Int)} {led : Led} {vs : List Value} {n : Nat}
    (cx : LawCtx w g L fa p loose mean mg mb E) (hQ : LawEnd g L Q s) (ho : SrcOk o) (hne : SrcNe src L) (hoff : LawOff src L led) (hR : RowsIn led (.ref lr) R) (hB : RowsIn led (.ref lb) R) (hPl : PlaneOb w led pl wd ht lr) (hr : Rect R wd ht) (hm : (lp, listOf vs.toArray n) ∈ led) (hvl : vs.length = 7) (hPs : PairsAre led vs)
    (F : Fr g L s.heap (fun z => if z = Str.ofString "pairs" then some (.ref lp) else if z = Str.ofString "before" then some (.ref lb) else if z = Str.ofString "rows" then some (.ref lr) else m z)) (N : News g L s.heap ((src, o) :: (L + 1 + 1 + 1 + 1 + 1, oP) :: (L + 1 + 1 + 1 + 1, oF) :: (L + 1 + 1 + 1, oT) :: (L + 1 + 1, oW) :: (L + 1, oS) :: (201, tabObj #[]) :: led))
    (dP : oP.data = .cell (some (.ref pl))) (dF : oF.data = .cell none) (dT : oT.data = .cell (some (.int top tt))) (dW : oW.data = .cell (some (.int wd tw))) (dS : oS.data = .cell (some (.ref src)))
    (hw2 : wd ≤ 4) (hh2 : ht ≤ 3) (ht1 : 0 < top) (ht2 : top < 1000) :
    LawAt w L fa 5 Q E s := by
  have cx0 := cx
  obtain ⟨X, T, K, C, l0, hE⟩ := cx
  unfold LawAt
  k_dflt (show wpAny _ (Around.deeper callerA (envOfC _ ⟨_, _, _, _, _⟩ _ _ _)) (execs (_ :: _) (envOfC _ ⟨_, _, _, _, _⟩ _ _ _)) _ _ _)
  have hne1 := hne
  simp only [SrcNe] at hne1
  have hlp : @Ne Nat lp src := (hoff _ hm).1
  have hsr : ∀ p ∈ led, p.1 ≠ src := fun p hp => (hoff p hp).1
  have hF4 : ∀ p ∈ led, p.1 ≠ L + 1 + 1 + 1 + 1 := fun p hp => (hoff p hp).2.2.1
  k_steps
  change wpAny _ _ _ _ _ _
  rename_i g1 g2 g3 g4 a1 x1 y1 g5 g6 g7 hm1 hx1 hy1 qa ea g8 g9 g10 g11 a2 x2 y2 g12 g13 g14 hm2 hx2 hy2 qb eb D5 z1 l5 z2 z3 z4 z5 D4 z6 l4 z7 M1 t1 z8 hM1 hN1 z9 M2 t2 z10 hM2 hN2 D3 z11 l3 D2 z12 l2 z13 z14 z15 z17 z18 o3 hO3 d3 t3 hd3 he3 qk1 ek1 z19 z20 o2 hO2 d2 t4 hd2 he2 qk2 ek2 z21 z22 o1 hO1 d1 t5 hd1 he1 D1 z23 l1x D0 z24 l0x z25 z26 oG dG z27 F9 N9
  obtain ⟨zw, ezw, hz1, hz2⟩ := to_nat he2 hd2
  obtain ⟨zh, ezh, hz3, hz4⟩ := to_nat he1 hd1
  rw [ezw, ezh] at N9
  obtain ⟨led9, N8, hsub, off9, po, pm, pz⟩ : ∃ led9, News g L z27 ((src, o1) :: (L + 1 + 1 + 1 + 1 + 1, oP) :: (L + 1 + 1 + 1 + 1, oG) :: (L + 1 + 1 + 1, oT) :: (L + 1 + 1, oW) :: (L + 1, oS) :: (201, tabObj #[]) :: led9) ∧ (∀ p ∈ led, p ∈ led9) ∧ LawOff src L led9 ∧ PairIn led9 D4 x1 x2 ∧ PairIn led9 D3 M1 M2 ∧ PairIn led9 D1 zw zh := by
    refine ⟨(D1, _) :: (D3, _) :: (D4, _) :: led, fun p hp => N9 p (by revert p; kcj_all), by kcj_all, ?_, ⟨_, _, _, .tail _ (.tail _ (.head _))⟩, ⟨_, _, _, .tail _ (.head _)⟩, ⟨_, _, _, .head _⟩⟩
    repeat' (first | exact hoff | refine LawOff.cons ⟨by omega, by omega, by omega, by omega, by omega, by omega, by omega⟩ ?_)
  have F8 := fr_split (x := Str.ofString "size") (v := .ref D1) (fr_split (x := Str.ofString "own") (v := .ref D4) (fr_split (x := Str.ofString "most") (v := .ref D3) (fr_split (x := Str.ofString "before") (v := .ref lb) (fr_split (x := Str.ofString "rows") (v := .ref lr) F9 rfl) rfl) rfl) rfl) rfl
  dsimp only
  with_unfolding_all show LawAt w L fa 8 Q E _
  exact @stageF w g L fa src lr lb pl D4 D3 D1 p loose mean mg mb Q E _ _ o1 oS oW oT oG oP wd ht zw zh top x1 x2 M1 M2 tt tw (decide (0 < d3)) R led9 cx0 hQ hO1 hne off9 (hR.mono hsub) (hB.mono hsub) (hPl.mono hsub) hr po pm pz hx1.1 hx2.1 hM1 hM2 (by omega) (by omega) hz1 (by omega) hz3 (by omega) F8 N8 dP dG dT dW dS hw2 hh2 ht1 ht2
end StageEe
theorem off_StD : True := by w_top off; trivial
section StageD
local macro_rules | `(tactic| walk_at "execs cons") => `(tactic| (k_here; (with_reducible show wpAny _ _ (execs (Stmt.Assign [Expr.Tuple [Expr.Name (Str.ofString "one") _, _] _ _] _ _ :: _) _) _ _ _); refine Stop.out ?_))
set_option maxRecDepth 100000 in
set_option maxHeartbeats 2000000 in
theorem stageD {w : World} {g : Heap} {L fa src lr lb pl : Addr} {p : Program} {loose : List Str} {mean : ExcName → Option Value} {mg mb : Str → Option Value} {Q : Flow → Shared → Prop} {E : Value → Shared → Prop} {s : Shared} {m : Str → Option Value} {o oS oW oT oF oP : Obj} {wd ht : Nat} {top : Int} {tt tw : Tok} {R : List (List Int)} {led : Led}
    (cx : LawCtx w g L fa p loose mean mg mb E) (hQ : LawEnd g L Q s) (ho : SrcOk o) (hne : SrcNe src L) (hoff : LawOff src L led) (hR : RowsIn led (.ref lr) R) (hB : RowsIn led (.ref lb) R) (hPl : PlaneOb w led pl wd ht lr) (hr : Rect R wd ht)
    (F : Fr g L s.heap (fun z => if z = Str.ofString "before" then some (.ref lb) else if z = Str.ofString "rows" then some (.ref lr) else m z)) (N : News g L s.heap ((src, o) :: (L + 1 + 1 + 1 + 1 + 1, oP) :: (L + 1 + 1 + 1 + 1, oF) :: (L + 1 + 1 + 1, oT) :: (L + 1 + 1, oW) :: (L + 1, oS) :: (201, tabObj #[]) :: led))
    (dP : oP.data = .cell (some (.ref pl))) (dF : oF.data = .cell none) (dT : oT.data = .cell (some (.int top tt))) (dW : oW.data = .cell (some (.int wd tw))) (dS : oS.data = .cell (some (.ref src)))
    (hw2 : wd ≤ 4) (hh2 : ht ≤ 3) (ht1 : 0 < top) (ht2 : top < 1000) :
    LawAt w L fa 4 Q E s := by
  have cx0 := cx
  obtain ⟨X, T, K, C, l0, hE⟩ := cx
  unfold LawAt
  k_dflt (show wpAny _ (Around.deeper callerA (envOfC _ ⟨_, _, _, _, _⟩ _ _ _)) (execs (_ :: _) (envOfC _ ⟨_, _, _, _, _⟩ _ _ _)) _ _ _)
  k_steps
  change wpAny _ _ _ _ _ _
  rename_i D1 hA1 lA1 D2 hA2 lA2 D3 hA3 lA3 D4 hA4 lA4 D5 hA5 lA5 D6 hA6 lA6 D7 hA7 lA7 lp hA8 lA8 hA9 F9 N9
  obtain ⟨led9, N8, hsub, off9, vs, n, hm, hvl, hPs⟩ : ∃ led9, News g L hA9 ((src, o) :: (L + 1 + 1 + 1 + 1 + 1, oP) :: (L + 1 + 1 + 1 + 1, oF) :: (L + 1 + 1 + 1, oT) :: (L + 1 + 1, oW) :: (L + 1, oS) :: (201, tabObj #[]) :: led9) ∧ (∀ p ∈ led, p ∈ led9) ∧ LawOff src L led9 ∧ ∃ vs n, (lp, listOf vs.toArray n) ∈ led9 ∧ vs.length = 7 ∧ PairsAre led9 vs := by
    refine ⟨(lp, _) :: (D7, _) :: (D6, _) :: (D5, _) :: (D4, _) :: (D3, _) :: (D2, _) :: (D1, _) :: led, fun p hp => N9 p (by revert p; kcj_all), by kcj_all, ?_, [_, _, _, _, _, _, _], _, .head _, rfl, ?_⟩
    · repeat' (first | exact hoff | refine LawOff.cons ⟨by omega, by omega, by omega, by omega, by omega, by omega, by omega⟩ ?_)
    · repeat' (first | exact PairsAre.nil | refine PairsAre.cons (by k_mem) (by decide) (by decide) ?_)
  dsimp only
  with_unfolding_all show LawAt w L fa 5 Q E _
  exact @stageE w g L fa src lr lb pl lp p loose mean mg mb Q E _ m o oS oW oT oF oP wd ht top tt tw R led9 vs n cx0 hQ ho hne off9 (hR.mono hsub) (hB.mono hsub) (hPl.mono hsub) hr hm hvl hPs F9 N8 dP dF dT dW dS hw2 hh2 ht1 ht2
end StageD
theorem off_StC : True := by w_top off; trivial
section StageC
local macro_rules | `(tactic| walk_at "call ref") => `(tactic| (k_here; (with_reducible show wpAny _ _ (call (Value.ref 159) _) _ _ _); refine Stop.out ?_))
local macro_rules | `(tactic| walk_at "CompEnd") => `(tactic| refine Stop.out ?_)
local macro_rules | `(tactic| walk_at "CompSrc") => `(tactic| refine Stop.out ?_)
local macro_rules | `(tactic| walk_at "execs cons") => `(tactic| (k_here; (with_reducible show wpAny _ _ (execs (Stmt.Assign [Expr.Name (Str.ofString "pairs") _] _ _ :: _) _) _ _ _); refine Stop.out ?_))
set_option maxRecDepth 100000 in
set_option maxHeartbeats 1000000 in
theorem stageC {w : World} {g : Heap} {L fa src lr : Addr} {p : Program} {loose : List Str} {mean : ExcName → Option Value} {mg mb : Str → Option Value} {Q : Flow → Shared → Prop} {E : Value → Shared → Prop} {s : Shared} {m : Str → Option Value} {o oS oW oT oF oP : Obj} {wd ht : Nat} {top : Int} {tt tw th : Tok} {R : List (List Int)} {led : Led}
    (cx : LawCtx w g L fa p loose mean mg mb E) (hQ : LawEnd g L Q s) (ho : SrcOk o) (hne : SrcNe src L) (hoff : LawOff src L led) (hR : RowsIn led (.ref lr) R) (hr : Rect R wd ht)
    (F : Fr g L s.heap (fun z => if z = Str.ofString "rows" then some (.ref lr) else if z = Str.ofString "high" then some (.int ht th) else m z)) (N : News g L s.heap ((src, o) :: (L + 1 + 1 + 1 + 1 + 1, oP) :: (L + 1 + 1 + 1 + 1, oF) :: (L + 1 + 1 + 1, oT) :: (L + 1 + 1, oW) :: (L + 1, oS) :: (201, tabObj #[]) :: led))
    (dP : oP.data = .cell none) (dF : oF.data = .cell none) (dT : oT.data = .cell (some (.int top tt))) (dW : oW.data = .cell (some (.int wd tw))) (dS : oS.data = .cell (some (.ref src)))
    (hw2 : wd ≤ 4) (hh2 : ht ≤ 3) (ht1 : 0 < top) (ht2 : top < 1000) :
    LawAt w L fa 3 Q E s := by
  have cx0 := cx
  obtain ⟨X, T, K, C, l0, hE⟩ := cx
  unfold LawAt
  k_dflt (show wpAny _ (Around.deeper callerA (envOfC _ ⟨_, _, _, _, _⟩ _ _ _)) (execs (_ :: _) (envOfC _ ⟨_, _, _, _, _⟩ _ _ _)) _ _ _)
  k_steps
  change LCg.CompSrc _ _ _ _ _ _ _ _ _ _ _ _ _ _
  rename Addr => x8
  rename PlaneOb _ _ _ _ _ _ => hPl
  rename News _ _ _ _ => N9
  rename Fr _ _ _ _ => F9
  rename ∀ q : Addr × Obj, q ∈ _ → ∀ x : Addr × Obj, x ∈ _ → @Ne Nat q.1 x.1 => hl9
  obtain ⟨led8, hs1, hs2, off8, N8⟩ := law_front N9 hl9 hoff
  clear N9 hl9
  have hR8 := hR.mono hs2
  obtain ⟨_, vs, n, e, hm, hd⟩ := hR8.open
  cases e
  have hvl : vs.length = ht := by have := hd.length; simp at this; rw [this]; exact hr.len
  refine LCg.CompSrc.ledger (its := vs.toArray) rfl F9 N8 (law_tail7 hm) (by rw [PySem.sizeLine_eq]; simp; omega) (fun g9 => ?_)
  refine comp_inv (n := vs.toArray.size) (fun i ys news => ∃ add, news = (src, o) :: (L + 1 + 1 + 1 + 1 + 1, oP) :: (L + 1 + 1 + 1 + 1, oF) :: (L + 1 + 1 + 1, oT) :: (L + 1 + 1, oW) :: (L + 1, oS) :: (201, tabObj #[]) :: (add ++ led8) ∧ LawOff src L add ∧ DatAll add ys ((R.take i).map intsD)) ?_ ?_ _ 0 [] _ (by omega) ⟨[], rfl, LawOff.nil, .nil⟩
  · intro i ys news v J oJ C1 oC D m₂ h tk E' hi hI hP hC hx F2 N2 off ne
    obtain ⟨add, rfl, hao, hda⟩ := hI
    obtain ⟨d, hd1, hd2⟩ := datAll_at hd (by simpa using hP)
    have hiR : i < R.length := by rw [hr.len, ← hvl]; simpa using hi
    have e : d = intsD (R[i]) := by
      rw [List.getElem?_map, List.getElem?_eq_getElem hiR] at hd1
      simpa using hd1.symm
    subst e
    obtain ⟨a, zs, n2, rfl, hm2, hi2⟩ := IntsIn.open hd2
    have hm3 : (a, listOf zs.toArray n2) ∈ (J, oJ) :: (C1, oC) :: (D, LCg.lst ys) :: (src, o) :: (L + 1 + 1 + 1 + 1 + 1, oP) :: (L + 1 + 1 + 1 + 1, oF) :: (L + 1 + 1 + 1, oT) :: (L + 1 + 1, oW) :: (L + 1, oS) :: (201, tabObj #[]) :: (add ++ led8) := .tail _ (.tail _ (.tail _ (law_tail7 (List.mem_append_right _ hm2))))
    have hzl : h.IsList a zs.toArray := ⟨_, (N2 _ hm3).1, rfl, n2, rfl⟩
    k_steps
    rename News _ _ _ _ => N9
    rename Fr _ _ _ _ => F9
    k_dflt (refine' list_copyK F9 N9 ?hl ?_ ?hz)
    case hl => exact hzl
    case hz => rw [PySem.sizeLine_eq]; have := hi2.length; have h2 := hr.row _ (List.getElem_mem hiR); simp; omega
    intro D9 c9 h9 F9 N9 l9
    have l10 := fun q hq => Nat.ne_of_lt (l9 q hq)
    have offV := off
    simp only [LCg.Off3] at offV
    obtain ⟨c1, c2, c3, c4, c5, c6, c7, c8⟩ := offV
    refine LCg.CompEnd.intro F9 N9 ((src, o) :: (L + 1 + 1 + 1 + 1 + 1, oP) :: (L + 1 + 1 + 1 + 1, oF) :: (L + 1 + 1 + 1, oT) :: (L + 1 + 1, oW) :: (L + 1, oS) :: (201, tabObj #[]) :: (((D9, listOf zs.toArray c9) :: add) ++ led8)) (by kcj_all) ?_ (.inr ⟨_, law_tail7 (List.mem_append_right _ hm), rfl, _, rfl⟩) ⟨(D9, listOf zs.toArray c9) :: add, rfl, ?_, ?_⟩
    · simp only [LCg.Off3, List.cons_append]
      exact ⟨c1, c2, c3, c4, c5, c6, c7, ⟨Ne.symm (l10 _ (.head _)), Ne.symm (l10 _ (.tail _ (.head _))), Ne.symm (l10 _ (.tail _ (.tail _ (.head _))))⟩, c8⟩
    · exact LawOff.cons (law_newer fun q hq => l10 q (.tail _ (.tail _ (.tail _ hq)))) hao
    · rw [List.take_succ_eq_append_getElem hiR]
      exact IntsIn.datAll hda hi2
  · rintro ys news ⟨add, rfl, hao, hda⟩
    intro D2 h3 tk3 F3 N3 off2
    have hP5 : ∀ p ∈ add ++ led8, p.1 ≠ L + 1 + 1 + 1 + 1 + 1 := fun p hp => (LawOff.append hao off8 p hp).2.1
    have offV := off2
    simp only [LCg.Off1] at offV
    have hne1 := hne
    simp only [SrcNe] at hne1
    k_steps
    change wpAny _ _ _ _ _ _
    rename News _ _ _ _ => N9
    rename Fr _ _ _ _ => F9
    rename Obj => o9
    rename o9.data = _ => d9
    have N8 : News g L _ ((src, o) :: (L + 1 + 1 + 1 + 1 + 1, o9) :: (L + 1 + 1 + 1 + 1, oF) :: (L + 1 + 1 + 1, oT) :: (L + 1 + 1, oW) :: (L + 1, oS) :: (201, tabObj #[]) :: ((D2, LCg.lst ys) :: (add ++ led8))) := fun p hp => N9 p (by revert p; kcj_all)
    dsimp only
    with_unfolding_all show LawAt w L fa 4 Q E _
    have off9 : LawOff src L ((D2, LCg.lst ys) :: (add ++ led8)) := LawOff.cons ⟨Ne.symm offV.1, Ne.symm offV.2.1, Ne.symm offV.2.2.1, Ne.symm offV.2.2.2.1, Ne.symm offV.2.2.2.2.1, Ne.symm offV.2.2.2.2.2.1, Ne.symm offV.2.2.2.2.2.2.1⟩ (LawOff.append hao off8)
    have hR9 : RowsIn ((D2, LCg.lst ys) :: (add ++ led8)) (.ref lr) R := hR8.mono fun p hp => .tail _ (List.mem_append_right _ hp)
    have hB9 : RowsIn ((D2, LCg.lst ys) :: (add ++ led8)) (.ref D2) R := by
      rw [List.take_of_length_le (by rw [hr.len]; simp; omega)] at hda
      exact RowsIn.of (vs := ys) (n := ys.length) (.head _) (hda.mono fun p hp => .tail _ (List.mem_append_left _ hp))
    have hPl9 := hPl.mono (n2 := (D2, LCg.lst ys) :: (add ++ led8)) fun p hp => .tail _ (List.mem_append_right _ (hs1 p hp))
    exact @stageD w g L fa src lr D2 x8 p loose mean mg mb Q E _ (fun z => if z = Str.ofString "high" then some (Value.int ht th) else m z) o oS oW oT oF o9 wd ht top tt tw R ((D2, LCg.lst ys) :: (add ++ led8)) cx0 hQ ho hne off9 hR9 hB9 hPl9 hr F9 N8 d9 dF dT dW dS hw2 hh2 ht1 ht2
end StageC
theorem off_StB2 : True := by w_top off; trivial
section StageB2
local macro_rules | `(tactic| walk_at "call ref") => `(tactic| (k_here; (with_reducible show wpAny _ _ (call (Value.ref 159) _) _ _ _); refine Stop.out ?_))
local macro_rules | `(tactic| walk_at "CompEnd") => `(tactic| refine Stop.out ?_)
local macro_rules | `(tactic| walk_at "CompSrc") => `(tactic| refine Stop.out ?_)
set_option maxRecDepth 100000 in
set_option maxHeartbeats 1000000 in
theorem stageB {w : World} {g : Heap} {L fa src : Addr} {p : Program} {loose : List Str} {mean : ExcName → Option Value} {mg mb : Str → Option Value} {Q : Flow → Shared → Prop} {E : Value → Shared → Prop} {s : Shared} {m : Str → Option Value} {o oS oW oT oF oP : Obj} {wd ht : Nat} {top : Int} {tt tw th : Tok}
    (cx : LawCtx w g L fa p loose mean mg mb E) (hQ : LawEnd g L Q s) (ho : SrcOk o) (hne : SrcNe src L)
    (F : Fr g L s.heap (fun z => if z = Str.ofString "high" then some (.int ht th) else m z)) (N : News g L s.heap [(src, o), (L + 1 + 1 + 1 + 1 + 1, oP), (L + 1 + 1 + 1 + 1, oF), (L + 1 + 1 + 1, oT), (L + 1 + 1, oW), (L + 1, oS), (201, tabObj #[])])
    (dP : oP.data = .cell none) (dF : oF.data = .cell none) (dT : oT.data = .cell (some (.int top tt))) (dW : oW.data = .cell (some (.int wd tw))) (dS : oS.data = .cell (some (.ref src)))
    (hw1 : 1 ≤ wd) (hw2 : wd ≤ 4) (hh1 : 1 ≤ ht) (hh2 : ht ≤ 3) (ht1 : 0 < top) (ht2 : top < 1000) :
    LawAt w L fa 2 Q E s := by
  have cx0 := cx
  obtain ⟨X, T, K, C, l0, hE⟩ := cx
  unfold LawAt
  k_dflt (show wpAny _ (Around.deeper callerA (envOfC _ ⟨_, _, _, _, _⟩ _ _ _)) (execs (_ :: _) (envOfC _ ⟨_, _, _, _, _⟩ _ _ _)) _ _ _)
  simp only [SrcNe] at hne
  refine wpAny_execs_cons ?_
  k_dflt (refine LCg.Assign_ListComp_U (F₀ := by k_asm) (by rfl) (by with_unfolding_all rfl) (by with_unfolding_all rfl) (by decide) (by rfl) (by decide) (by rfl) (by rfl) (by rfl) ?_)
  k_steps
  change LCg.CompSrc _ _ _ _ _ _ _ _ _ _ _ _ _ _
  rename IsRange _ _ _ _ _ _ _ _ => hr9
  rename Fr _ _ _ _ => F9
  rename News _ _ _ _ => N9
  refine LCg.CompSrc.range (n := ht) rfl F9 N9 hr9 (small_one (by decide) (by decide) (by omega) (by omega)) (range_is ht) (by rw [PySem.sizeLine_eq]; omega) (fun g9 => ?_)
  clear hr9 F9 N9
  refine comp_inv (n := ht) (fun i ys news => ∃ o led rs, news = (src, o) :: (L + 1 + 1 + 1 + 1 + 1, oP) :: (L + 1 + 1 + 1 + 1, oF) :: (L + 1 + 1 + 1, oT) :: (L + 1 + 1, oW) :: (L + 1, oS) :: (201, tabObj #[]) :: led ∧ SrcOk o ∧ LawOff src L led ∧ DatAll led ys (rs.map intsD) ∧ rs.length = i ∧ ∀ r ∈ rs, r.length = wd) ?_ ?_ ht 0 [] _ (by omega) ⟨o, [], [], rfl, ho, LawOff.nil, .nil, rfl, fun _ h => nomatch h⟩
  · intro i ys news v J oJ C1 oC D m₂ h tk E' hi hI hP hC hx F2 N2 off ne
    obtain ⟨o1, led, rs, rfl, ho1, hoff, hd, hl, hr⟩ := hI
    clear ho
    k_dflt (refine LCg.ListComp_U (F₀ := by k_asm) (by with_unfolding_all rfl) (by decide) (by rfl) (by decide) (by rfl) ?_)
    k_steps
    change LCg.CompSrc _ _ _ _ _ _ _ _ _ _ _ _ _ _
    rename IsRange _ _ _ _ _ _ _ _ => hr9
    rename Fr _ _ _ _ => F9
    rename News _ _ _ _ => N9
    refine LCg.CompSrc.range (n := wd) rfl F9 N9 hr9 (small_one (by decide) (by decide) (by omega) (by omega)) (range_is wd) (by rw [PySem.sizeLine_eq]; omega) (fun g9 => ?_)
    clear hr9 F9 N9
    refine comp_inv (n := wd) (fun i ys2 news => ∃ o r, news = (J, oJ) :: (C1, oC) :: (D, LCg.lst ys) :: (src, o) :: (L + 1 + 1 + 1 + 1 + 1, oP) :: (L + 1 + 1 + 1 + 1, oF) :: (L + 1 + 1 + 1, oT) :: (L + 1 + 1, oW) :: (L + 1, oS) :: (201, tabObj #[]) :: led ∧ SrcOk o ∧ IntsAre ys2 r ∧ r.length = i) ?_ ?_ wd 0 [] _ (by omega) ⟨o1, [], rfl, ho1, .nil, rfl⟩
    · intro i2 ys2 news2 v2 J2 oJ2 C2 oC2 D2 m₃ h2 tk2 E2 hi2 hI2 hP2 hC2 hx2 F3 N3 off2 ne2
      obtain ⟨o2, r, rfl, ho2, hI3, hl2⟩ := hI2
      clear ho1
      have offU := off2
      have offV := off
      simp only [LCg.Off3] at offU offV
      obtain ⟨-, -, -, ⟨a1, a2, a3⟩, -⟩ := offU
      obtain ⟨⟨b1, b2, b3⟩, -⟩ := offV
      clear off
      k_steps
      rename News _ _ _ _ => N9
      rename Fr _ _ _ _ => F9
      k_dflt (refine SpecTo.use (take_at w src o2 top tt _ _ (UpdF.tail (Ne.symm a1) (UpdF.tail (Ne.symm a2) (UpdF.tail (Ne.symm a3) (UpdF.tail (Ne.symm b1) (UpdF.tail (Ne.symm b2) (UpdF.tail (Ne.symm b3) (upd_src hne fun p hp => (hoff p hp).1))))))) ho2 ht1 (by omega)) K F9 X N9 T rfl ?kd ?ku ?_)
      case kd => ktr_room
      case ku => ktr_units
      intro r' nw' h' tk' F' N' hp'
      obtain ⟨o', rfl, hO', d', t', rfl, hlo', hhi'⟩ := hp'
      refine LCg.CompEnd.intro F' N' _ (fun p hp => hp) off2 trivial ⟨o', r ++ [d'], rfl, hO', IntsAre.append hI3 (.cons _ _ .nil), by rw [List.length_append, hl2]; rfl⟩
    · rintro ys2 news2 ⟨o2, r, rfl, ho2, hI3, hl2⟩
      intro D2 h3 tk3 F3 N3 off2
      have offU := off2
      have offV := off
      simp only [LCg.Off3, LCg.Off1] at offU offV
      obtain ⟨a1, a2, a3, a4, a5, a6, a7, a8, a9, a10, a11⟩ := offU
      refine LCg.CompEnd.intro F3 N3 ((src, o2) :: (L + 1 + 1 + 1 + 1 + 1, oP) :: (L + 1 + 1 + 1 + 1, oF) :: (L + 1 + 1 + 1, oT) :: (L + 1 + 1, oW) :: (L + 1, oS) :: (201, tabObj #[]) :: (D2, listOf ys2.toArray ys2.length) :: led) (by kcj_all) ?_ trivial ⟨o2, _, rs ++ [r], rfl, ho2, LawOff.cons ⟨Ne.symm a4, Ne.symm a5, Ne.symm a6, Ne.symm a7, Ne.symm a8, Ne.symm a9, Ne.symm a10⟩ hoff, IntsIn.datAll hd hI3, by rw [List.length_append, hl]; rfl, fun r' hr' => ?_⟩
      · simp only [LCg.Off3]
        obtain ⟨c1, c2, c3, c4, c5, c6, c7, c8⟩ := offV
        exact ⟨c1, c2, c3, c4, c5, c6, c7, ⟨Ne.symm a1, Ne.symm a2, Ne.symm a3⟩, c8⟩
      · rcases List.mem_append.mp hr' with hr' | hr'
        · exact hr _ hr'
        · rw [List.mem_singleton.mp hr']; exact hl2
  · rintro ys news ⟨o1, led, rs, rfl, ho1, hoff, hd, hl, hr⟩
    intro D2 h3 tk3 F3 N3 off2
    have offV := off2
    simp only [LCg.Off1] at offV
    obtain ⟨a4, a5, a6, a7, a8, a9, a10, a11⟩ := offV
    have off9 : LawOff src L ((D2, LCg.lst ys) :: led) := LawOff.cons ⟨Ne.symm a4, Ne.symm a5, Ne.symm a6, Ne.symm a7, Ne.symm a8, Ne.symm a9, Ne.symm a10⟩ hoff
    have N8 : News g L h3 ((src, o1) :: (L + 1 + 1 + 1 + 1 + 1, oP) :: (L + 1 + 1 + 1 + 1, oF) :: (L + 1 + 1 + 1, oT) :: (L + 1 + 1, oW) :: (L + 1, oS) :: (201, tabObj #[]) :: (D2, LCg.lst ys) :: led) := fun p hp => N3 p (by revert p; kcj_all)
    have hR9 : RowsIn ((D2, LCg.lst ys) :: led) (.ref D2) rs := RowsIn.of (n := ys.length) (.head _) (hd.mono fun p hp => .tail _ hp)
    (try dsimp only)
    with_unfolding_all show LawAt w L fa 3 Q E _
    exact @stageC w g L fa src D2 p loose mean mg mb Q E _ m o1 oS oW oT oF oP wd ht top tt tw th rs ((D2, LCg.lst ys) :: led) cx0 hQ ho1 hne off9 hR9 ⟨by omega, by omega, by omega, by omega, hl, hr⟩ F3 N8 dP dF dT dW dS hw2 hh2 ht1 ht2
end StageB2
theorem off_StA2 : True := by w_top off; trivial
section StageA2
local macro_rules | `(tactic| walk_at "execs cons") => `(tactic| (k_here; (with_reducible show wpAny _ _ (execs (Stmt.Assign [Expr.Name (Str.ofString "rows") _] _ _ :: _) _) _ _ _); refine Stop.out ?_))
set_option maxRecDepth 100000 in
set_option maxHeartbeats 4000000 in
theorem stageA {w : World} {g : Heap} {L fa sc : Addr} {p : Program} {loose : List Str} {mean : ExcName → Option Value} {mg mb : Str → Option Value} {Q : Flow → Shared → Prop} {E : Value → Shared → Prop} {s : Shared} {m : Str → Option Value} {vs : List Value} {ns : List Int} {oS oW oT oF oP : Obj}
    (cx : LawCtx w g L fa p loose mean mg mb E) (hQ : LawEnd g L Q s) (hs : g.IsList sc vs.toArray) (hi : IntsAre vs ns) (hn : ns.length < 1048576)
    (F : Fr g L s.heap (fun z => if z = Str.ofString "script" then some (.ref sc) else m z)) (N : News g L s.heap [(L + 1 + 1 + 1 + 1 + 1, oP), (L + 1 + 1 + 1 + 1, oF), (L + 1 + 1 + 1, oT), (L + 1 + 1, oW), (L + 1, oS), (201, tabObj #[])])
    (dP : oP.data = .cell none) (dF : oF.data = .cell none) (dT : oT.data = .cell none) (dW : oW.data = .cell none) (dS : oS.data = .cell none) :
    LawAt w L fa 0 Q E s := by
  have cx0 := cx
  obtain ⟨X, T, K, C, l0, hE⟩ := cx
  unfold LawAt
  k_dflt (show wpAny _ (Around.deeper callerA (envOfC _ ⟨_, _, _, _, _⟩ _ _ _)) (execs (_ :: _) (envOfC _ ⟨_, _, _, _, _⟩ _ _ _)) _ _ _)
  k_steps
  change wpAny _ _ _ _ _ _
  rename_i s1 s2 src s3 s4 hl9 r1 oS9 dS9 r2 q1 q2 q3 q4 dw q5 hdw0 hdw1 q6 q7 u1 u2 u3 u4 dh u5 hdh0 hdh1 u6 u7 lp u8 u9 v1 v2 v3 v4 v5 v6 v8 v9 x1 x2 x3 o9 hO9 dt x4 hdt0 hdt1 x5 t9 x6 x7 D9 y1 y2 y3 y4 oW9 dW9 y5 y6 oT9 F9 N9 dT9
  obtain ⟨wd, ew, hw1, hw2⟩ := to_nat hdw1 hdw0
  obtain ⟨ht, eh, hh1, hh2⟩ := to_nat hdh1 hdh0
  obtain ⟨top, et, ht1, ht2⟩ : ∃ top : Int, ([256, 256, 4] : List Int).getD dt.toNat 0 = top ∧ 0 < top ∧ top < 1000 := by
    refine ⟨_, rfl, ?_⟩
    have e : dt = 0 ∨ dt = 1 ∨ dt = 2 := by omega
    rcases e with rfl | rfl | rfl <;> decide
  have N8 : News g L _ ((src, o9) :: (L + 1 + 1 + 1 + 1 + 1, oP) :: (L + 1 + 1 + 1 + 1, oF) :: (L + 1 + 1 + 1, oT9) :: (L + 1 + 1, oW9) :: (L + 1, oS9) :: [(201, tabObj #[])]) := fun p hp => N9 p (by revert p; kcj_all)
  rw [ew] at dW9
  rw [eh] at F9
  rw [et] at dT9
  (try dsimp only)
  with_unfolding_all show LawAt w L fa 2 Q E _
  exact @stageB w g L fa src p loose mean mg mb Q E _ _ o9 oS9 oW9 oT9 oF oP wd ht top _ _ _ cx0 hQ hO9 hl9 F9 N8 dP dF dT9 dW9 dS9 hw1 (by omega) hh1 (by omega) ht1 ht2
end StageA2
theorem off_TOP : True := by w_top off; trivial
set_option maxRecDepth 100000 in
set_option maxHeartbeats 4000000 in
theorem law_holds : PySem.Challenge.rw_nz0244_01.Holds := hd (by
  k_go0
  (all_goals try k_fold)
  with_unfolding_all show LawAt _ _ _ 0 _ _ _
  refine' stageA ⟨?X, ?T, ?K, ?C, ?l, ?E⟩ ?hQ ?hs ?hi ?hn (fr_split ?F ?fe) ?N ?dP ?dF ?dT ?dW ?dS
  case X => assumption
  case T => assumption
  case K => assumption
  case C => assumption
  case l => assumption
  case hs => assumption
  case hi => assumption
  case F => assumption
  case N => assumption
  case fe => rfl
  case dP => assumption
  case dF => assumption
  case dT => assumption
  case dW => assumption
  case dS => assumption
  case hn => omega
  case E => with_unfolding_all (refine (?_ : PassesOwn _ (Around.deeper callerA (envOfC _ _ _ _ _)) (envOfC _ _ _ _ _) _)); passes_own
  case hQ =>
    intro h9 tk9 m9 ps9 led9 F9 N9
    dsimp only
    k_steps)
end Mine
theorem PySem.Challenge.cw_nz0244_01_holds : PySem.Challenge.rw_nz0244_01.Holds := by
  exact Mine.law_holds
