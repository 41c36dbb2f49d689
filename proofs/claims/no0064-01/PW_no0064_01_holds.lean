import PyProof.Rows.All
import Wide.All
import OpenK.AllK
import Wide.FinOn
import PySem.Challenge.RW_no0064_01
open PySem PySem.W PyProof.Rows PySem.Calls
set_option Elab.async false
set_option maxRecDepth 100000
set_option compiler.extract_closed false
-- Hd
namespace Mine
set_option linter.unusedVariables false
/-! the top's run, cut once: the states are written out (by a program: GenS.lean), each stretch is one check -/
noncomputable abbrev RP : Program := PySem.Challenge.rw_no0064_01.row.prog
noncomputable abbrev bodyE : List Stmt := behindTheImports RP
noncomputable abbrev pos0 : Pos := { line := 0, col := 0, endLine := 0, endCol := 0 }
noncomputable def stAt (i : Nat) : Stmt := (bodyE[i]?).getD (.Pass pos0)
noncomputable def bdOf : Stmt → List Stmt
  | .FunctionDef _ _ b _ _ _ _ _ _ _ => b
  | .ClassDef _ _ _ b _ _ _ _ _ _ _ => b
  | _ => []
noncomputable def paOf : Stmt → Arguments
  | .FunctionDef _ a _ _ _ _ _ _ _ _ => a
  | _ => { posonlyargs := [], args := [], vararg := none, kwonlyargs := [], kw_defaults := [], kwarg := none, defaults := [] }
noncomputable def scOf : Stmt → Scope
  | .FunctionDef _ _ _ _ _ _ s _ _ _ => s
  | _ => RP.main.scope
noncomputable def inAt (i j : Nat) : Stmt := ((bdOf (stAt i))[j]?).getD (.Pass pos0)
noncomputable def pa0 : Arguments := paOf (inAt 3 0)
noncomputable def bd1 : List Stmt := bdOf (inAt 3 0)
noncomputable def sc2 : Scope := scOf (inAt 3 0)
noncomputable def pa3 : Arguments := paOf (stAt 6)
noncomputable def bd4 : List Stmt := bdOf (stAt 6)
noncomputable def sc5 : Scope := scOf (stAt 6)
noncomputable def pa6 : Arguments := paOf (inAt 4 0)
noncomputable def bd7 : List Stmt := bdOf (inAt 4 0)
noncomputable def sc8 : Scope := scOf (inAt 4 0)
noncomputable def pa9 : Arguments := paOf (stAt 7)
noncomputable def bd10 : List Stmt := bdOf (stAt 7)
noncomputable def sc11 : Scope := scOf (stAt 7)
noncomputable def pa12 : Arguments := paOf (stAt 24)
noncomputable def bd13 : List Stmt := bdOf (stAt 24)
noncomputable def sc14 : Scope := scOf (stAt 24)
noncomputable def pa15 : Arguments := paOf (stAt 35)
noncomputable def bd16 : List Stmt := bdOf (stAt 35)
noncomputable def sc17 : Scope := scOf (stAt 35)
noncomputable def pa18 : Arguments := paOf (stAt 26)
noncomputable def bd19 : List Stmt := bdOf (stAt 26)
noncomputable def sc20 : Scope := scOf (stAt 26)
noncomputable def pa21 : Arguments := paOf (stAt 20)
noncomputable def bd22 : List Stmt := bdOf (stAt 20)
noncomputable def sc23 : Scope := scOf (stAt 20)
noncomputable def pa24 : Arguments := paOf (stAt 31)
noncomputable def bd25 : List Stmt := bdOf (stAt 31)
noncomputable def sc26 : Scope := scOf (stAt 31)
noncomputable def pa27 : Arguments := paOf (stAt 18)
noncomputable def bd28 : List Stmt := bdOf (stAt 18)
noncomputable def sc29 : Scope := scOf (stAt 18)
noncomputable def pa30 : Arguments := paOf (stAt 22)
noncomputable def bd31 : List Stmt := bdOf (stAt 22)
noncomputable def sc32 : Scope := scOf (stAt 22)
noncomputable def pa33 : Arguments := paOf (stAt 33)
noncomputable def bd34 : List Stmt := bdOf (stAt 33)
noncomputable def sc35 : Scope := scOf (stAt 33)
noncomputable def pa36 : Arguments := paOf (stAt 16)
noncomputable def bd37 : List Stmt := bdOf (stAt 16)
noncomputable def sc38 : Scope := scOf (stAt 16)
noncomputable def pa39 : Arguments := paOf (stAt 29)
noncomputable def bd40 : List Stmt := bdOf (stAt 29)
noncomputable def sc41 : Scope := scOf (stAt 29)
noncomputable def pa42 : Arguments := paOf (stAt 19)
noncomputable def bd43 : List Stmt := bdOf (stAt 19)
noncomputable def sc44 : Scope := scOf (stAt 19)
noncomputable def pa45 : Arguments := paOf (stAt 30)
noncomputable def bd46 : List Stmt := bdOf (stAt 30)
noncomputable def sc47 : Scope := scOf (stAt 30)
noncomputable def pa48 : Arguments := paOf (stAt 17)
noncomputable def bd49 : List Stmt := bdOf (stAt 17)
noncomputable def sc50 : Scope := scOf (stAt 17)
noncomputable def pa51 : Arguments := paOf (stAt 25)
noncomputable def bd52 : List Stmt := bdOf (stAt 25)
noncomputable def sc53 : Scope := scOf (stAt 25)
noncomputable def pa54 : Arguments := paOf (stAt 36)
noncomputable def bd55 : List Stmt := bdOf (stAt 36)
noncomputable def sc56 : Scope := scOf (stAt 36)
noncomputable def pa57 : Arguments := paOf (stAt 23)
noncomputable def bd58 : List Stmt := bdOf (stAt 23)
noncomputable def sc59 : Scope := scOf (stAt 23)
noncomputable def pa60 : Arguments := paOf (stAt 28)
noncomputable def bd61 : List Stmt := bdOf (stAt 28)
noncomputable def sc62 : Scope := scOf (stAt 28)
noncomputable def pa63 : Arguments := paOf (stAt 21)
noncomputable def bd64 : List Stmt := bdOf (stAt 21)
noncomputable def sc65 : Scope := scOf (stAt 21)
noncomputable def pa66 : Arguments := paOf (stAt 32)
noncomputable def bd67 : List Stmt := bdOf (stAt 32)
noncomputable def sc68 : Scope := scOf (stAt 32)
noncomputable def pa69 : Arguments := paOf (stAt 34)
noncomputable def bd70 : List Stmt := bdOf (stAt 34)
noncomputable def sc71 : Scope := scOf (stAt 34)
noncomputable def o_5 (P : Params) : Obj := { cls := Value.type "tuple", data := Data.seq #[] }
noncomputable def o_7 (P : Params) : Obj := { cls := Value.type "code", data := Data.fields #[Value.str (Str.ofString "<module>") 182, Value.str (Str.ofString "<module>") 183, Value.str (Str.ofString "/claim/cut.py") 184, Value.int 1 0, Value.int 0 0, Value.int 0 0, Value.int 0 0, Value.int 0 0, Value.ref 11, Value.bool false, Value.int 181 0, Value.ref 12, Value.none, Value.none, Value.none, Value.none, Value.int 185 0, Value.int 1 0, Value.str (Str.ofString "/claim/cut.py") 186] }
noncomputable def o_6 (P : Params) : Obj := { cls := Value.none, data := Data.fields #[] }
noncomputable def o_8 (P : Params) : Obj := { cls := Value.type "frame", slots := #[some (Value.ref 13), some (Value.ref 3), some (Value.ref 3), none, some (Value.str (Str.ofString "__main__") 164), none, some (Value.ref 0)] }
noncomputable def o_12 (P : Params) : Obj := { cls := Value.type "dict", data := Data.dict #[{ hash := PyData.keyHash P (Str.ofString "__name__"), key := Value.str (Str.ofString "__name__") 165, val := Value.str (Str.ofString "quic.errors") 187 }, { hash := PyData.keyHash P (Str.ofString "__doc__"), key := Value.str (Str.ofString "__doc__") 166, val := Value.none }, { hash := PyData.keyHash P (Str.ofString "__package__"), key := Value.str (Str.ofString "__package__") 167, val := Value.none }, { hash := PyData.keyHash P (Str.ofString "__loader__"), key := Value.str (Str.ofString "__loader__") 168, val := Value.builtin "__main__.__loader__#opaque" }, { hash := PyData.keyHash P (Str.ofString "__spec__"), key := Value.str (Str.ofString "__spec__") 169, val := Value.none }, { hash := PyData.keyHash P (Str.ofString "__annotations__"), key := Value.str (Str.ofString "__annotations__") 170, val := Value.ref 6 }, { hash := PyData.keyHash P (Str.ofString "__builtins__"), key := Value.str (Str.ofString "__builtins__") 171, val := Value.ref 4 }, { hash := PyData.keyHash P (Str.ofString "__file__"), key := Value.str (Str.ofString "__file__") 173, val := Value.str (Str.ofString "/claim/cut.py") 172 }, { hash := PyData.keyHash P (Str.ofString "__cached__"), key := Value.str (Str.ofString "__cached__") 174, val := Value.none }, { hash := PyData.keyHash P (Str.ofString "INTERNAL_ERROR"), key := Value.str (Str.ofString "INTERNAL_ERROR") 190, val := Value.int 1 189 }, { hash := PyData.keyHash P (Str.ofString "CRYPTO_ERROR"), key := Value.str (Str.ofString "CRYPTO_ERROR") 192, val := Value.int 256 191 }, { hash := PyData.keyHash P (Str.ofString "QuicError"), key := Value.str (Str.ofString "QuicError") 225, val := Value.ref 31 }] 12 }
noncomputable def o_14 (P : Params) : Obj := { cls := Value.type "tuple", data := Data.seq #[Value.type "Exception"] }
noncomputable def o_30 (P : Params) : Obj := { cls := Value.type "type", data := Data.cls { name := Str.ofString "QuicError", bases := [Value.type "Exception"], mro := [Value.ref 31, Value.type "Exception", Value.type "BaseException", Value.type "object"], ns := 30, qualname := Str.ofString "QuicError" }, slots := #[some (Value.ref 15), none, some (Value.str (Str.ofString "QuicError") 193), some (Value.str (Str.ofString "QuicError") 201), some (Value.builtin "Exception.__new__"), some (Value.bool true)] }
noncomputable def o_22 (P : Params) : Obj := { cls := Value.none, data := Data.fields #[] }
noncomputable def o_18 (P : Params) : Obj := { cls := Value.none, data := Data.fields #[Value.int 6 0, Value.int 4 0, Value.ref 27] }
noncomputable def o_26 (P : Params) : Obj := { cls := Value.type "code", data := Data.fields #[Value.str (Str.ofString "__init__") 205, Value.str (Str.ofString "QuicError.__init__") 206, Value.str (Str.ofString "/claim/cut.py") 207, Value.int 6 0, Value.int 4 0, Value.int 0 0, Value.int 0 0, Value.int 3 0, Value.ref 22, Value.bool true, Value.int 181 0, Value.ref 23, Value.none, Value.ref 24, Value.ref 25, Value.ref 26, Value.int 212 0, Value.int 6 0, Value.str (Str.ofString "/claim/cut.py") 213] }
noncomputable def o_16 (P : Params) : Obj := { cls := Value.type "dict", data := Data.dict #[{ hash := PyData.keyHash P (Str.ofString "__module__"), key := Value.str (Str.ofString "__module__") 200, val := Value.str (Str.ofString "quic.errors") 187 }, { hash := PyData.keyHash P (Str.ofString "__qualname__"), key := Value.str (Str.ofString "__qualname__") 202, val := Value.str (Str.ofString "QuicError") 201 }, { hash := PyData.keyHash P (Str.ofString "__firstlineno__"), key := Value.str (Str.ofString "__firstlineno__") 204, val := Value.int 4 203 }, { hash := PyData.keyHash P (Str.ofString "__init__"), key := Value.str (Str.ofString "__init__") 214, val := Value.ref 28 }, { hash := PyData.keyHash P (Str.ofString "__static_attributes__"), key := Value.str (Str.ofString "__static_attributes__") 218, val := Value.ref 29 }] 5 }
noncomputable def o_32 (P : Params) : Obj := { cls := Value.type "super", data := Data.fields #[Value.ref 31, Value.ref 31, Value.ref 31] }
noncomputable def o_24 (P : Params) : Obj := { cls := Value.type "tuple", data := Data.seq #[] }
noncomputable def o_20 (P : Params) : Obj := { cls := Value.type "frame", slots := #[some (Value.ref 20), some (Value.ref 3), some (Value.ref 17), none, some (Value.str (Str.ofString "quic.errors") 187), none, some (Value.ref 0)] }
noncomputable def o_28 (P : Params) : Obj := { cls := Value.type "tuple", data := Data.seq #[Value.str (Str.ofString "code") 215, Value.str (Str.ofString "frame_type") 216, Value.str (Str.ofString "text") 217] }
noncomputable def o_11 (P : Params) : Obj := { cls := Value.none, data := Data.dict #[{ hash := PyData.keyHash P (Str.ofString "type.__subclasses__.Exception.0"), key := Value.str (Str.ofString "type.__subclasses__.Exception.0") 222, val := Value.int 31 0 }, { hash := PyData.keyHash P (Str.ofString "type.__subclasses__.Exception.n"), key := Value.str (Str.ofString "type.__subclasses__.Exception.n") 223, val := Value.int 1 0 }] 2 }
noncomputable def o_15 (P : Params) : Obj := { cls := Value.type "builtin_function_or_method", data := Data.fields #[Value.builtin "type.__prepare__", Value.type "type"] }
noncomputable def o_31 (P : Params) : Obj := { cls := Value.type "getset_descriptor", data := Data.fields #[Value.str (Str.ofString "__weakref__") 219, Value.ref 31, Value.builtin "ExceptionGroup.__weakref__", Value.none] }
noncomputable def o_23 (P : Params) : Obj := { cls := Value.type "tuple", data := Data.seq #[Value.str (Str.ofString "self") 208, Value.str (Str.ofString "code") 209, Value.str (Str.ofString "frame_type") 210, Value.str (Str.ofString "text") 211] }
noncomputable def o_13 (P : Params) : Obj := { cls := Value.none, data := Data.fields #[Value.int 4 0, Value.int 0 0, Value.ref 20] }
noncomputable def o_19 (P : Params) : Obj := { cls := Value.type "code", data := Data.fields #[Value.str (Str.ofString "QuicError") 195, Value.str (Str.ofString "QuicError") 196, Value.str (Str.ofString "/claim/cut.py") 197, Value.int 4 0, Value.int 0 0, Value.int 0 0, Value.int 0 0, Value.int 0 0, Value.ref 18, Value.bool false, Value.int 181 0, Value.ref 19, Value.none, Value.none, Value.none, Value.none, Value.int 198 0, Value.int 4 0, Value.str (Str.ofString "/claim/cut.py") 199] }
noncomputable def o_27 (P : Params) : Obj := { cls := Value.type "function", data := Data.func { name := Str.ofString "__init__", qualname := Str.ofString "QuicError.__init__", params := pa0, body := FuncBody.stmts bd1, scope := sc2, globals := 3, closure := [], defaults := Value.none, kwdefaults := Value.none, pyModule := Value.str (Str.ofString "quic.errors") 187, code := Value.ref 27 } }
noncomputable def o_17 (P : Params) : Obj := { cls := Value.type "tuple", data := Data.seq #[] }
noncomputable def o_33 (P : Params) : Obj := { cls := Value.type "builtin_function_or_method", data := Data.fields #[Value.builtin "object.__init_subclass__", Value.ref 31] }
noncomputable def o_25 (P : Params) : Obj := { cls := Value.none, data := Data.func { name := Str.ofString "__init__", qualname := Str.ofString "QuicError.__init__", params := pa0, body := FuncBody.stmts bd1, scope := sc2, globals := 0, closure := [], defaults := Value.none, kwdefaults := Value.none } }
noncomputable def o_21 (P : Params) : Obj := { cls := Value.type "tuple", data := Data.seq #[] }
noncomputable def o_29 (P : Params) : Obj := { cls := Value.type "dict", data := Data.dict #[{ hash := PyData.keyHash P (Str.ofString "__module__"), key := Value.str (Str.ofString "__module__") 200, val := Value.str (Str.ofString "quic.errors") 187 }, { hash := PyData.keyHash P (Str.ofString "__firstlineno__"), key := Value.str (Str.ofString "__firstlineno__") 204, val := Value.int 4 203 }, { hash := PyData.keyHash P (Str.ofString "__init__"), key := Value.str (Str.ofString "__init__") 214, val := Value.ref 28 }, { hash := PyData.keyHash P (Str.ofString "__static_attributes__"), key := Value.str (Str.ofString "__static_attributes__") 218, val := Value.ref 29 }, { hash := PyData.keyHash P (Str.ofString "__weakref__"), key := Value.str (Str.ofString "__weakref__") 220, val := Value.ref 32 }, { hash := PyData.keyHash P (Str.ofString "__doc__"), key := Value.str (Str.ofString "__doc__") 221, val := Value.none }] 3 }
noncomputable def o_35 (P : Params) : Obj := { cls := Value.type "dict", data := Data.dict #[{ hash := PyData.keyHash P (Str.ofString "__name__"), key := Value.str (Str.ofString "__name__") 165, val := Value.str (Str.ofString "quic.toytls") 278 }, { hash := PyData.keyHash P (Str.ofString "__doc__"), key := Value.str (Str.ofString "__doc__") 166, val := Value.none }, { hash := PyData.keyHash P (Str.ofString "__package__"), key := Value.str (Str.ofString "__package__") 167, val := Value.none }, { hash := PyData.keyHash P (Str.ofString "__loader__"), key := Value.str (Str.ofString "__loader__") 168, val := Value.builtin "__main__.__loader__#opaque" }, { hash := PyData.keyHash P (Str.ofString "__spec__"), key := Value.str (Str.ofString "__spec__") 169, val := Value.none }, { hash := PyData.keyHash P (Str.ofString "__annotations__"), key := Value.str (Str.ofString "__annotations__") 170, val := Value.ref 6 }, { hash := PyData.keyHash P (Str.ofString "__builtins__"), key := Value.str (Str.ofString "__builtins__") 171, val := Value.ref 4 }, { hash := PyData.keyHash P (Str.ofString "__file__"), key := Value.str (Str.ofString "__file__") 173, val := Value.str (Str.ofString "/claim/cut.py") 172 }, { hash := PyData.keyHash P (Str.ofString "__cached__"), key := Value.str (Str.ofString "__cached__") 174, val := Value.none }, { hash := PyData.keyHash P (Str.ofString "INTERNAL_ERROR"), key := Value.str (Str.ofString "INTERNAL_ERROR") 190, val := Value.int 1 189 }, { hash := PyData.keyHash P (Str.ofString "CRYPTO_ERROR"), key := Value.str (Str.ofString "CRYPTO_ERROR") 192, val := Value.int 256 191 }, { hash := PyData.keyHash P (Str.ofString "QuicError"), key := Value.str (Str.ofString "QuicError") 225, val := Value.ref 31 }, { hash := PyData.keyHash P (Str.ofString "Short"), key := Value.str (Str.ofString "Short") 254, val := Value.ref 51 }, { hash := PyData.keyHash P (Str.ofString "put_whole"), key := Value.str (Str.ofString "put_whole") 266, val := Value.ref 61 }, { hash := PyData.keyHash P (Str.ofString "get_whole"), key := Value.str (Str.ofString "get_whole") 277, val := Value.ref 68 }, { hash := PyData.keyHash P (Str.ofString "CLIENT_HELLO"), key := Value.str (Str.ofString "CLIENT_HELLO") 281, val := Value.int 1 280 }, { hash := PyData.keyHash P (Str.ofString "SERVER_HELLO"), key := Value.str (Str.ofString "SERVER_HELLO") 283, val := Value.int 2 282 }, { hash := PyData.keyHash P (Str.ofString "ENCRYPTED_EXTENSIONS"), key := Value.str (Str.ofString "ENCRYPTED_EXTENSIONS") 285, val := Value.int 8 284 }, { hash := PyData.keyHash P (Str.ofString "ALERT_DECODE"), key := Value.str (Str.ofString "ALERT_DECODE") 287, val := Value.int 50 286 }, { hash := PyData.keyHash P (Str.ofString "CRYPTO_FRAME"), key := Value.str (Str.ofString "CRYPTO_FRAME") 289, val := Value.int 6 288 }, { hash := PyData.keyHash P (Str.ofString "HEAD_SIZE"), key := Value.str (Str.ofString "HEAD_SIZE") 291, val := Value.int 4 290 }, { hash := PyData.keyHash P (Str.ofString "RANDOM_SIZE"), key := Value.str (Str.ofString "RANDOM_SIZE") 293, val := Value.int 8 292 }] 22 }
noncomputable def o_65 (P : Params) : Obj := { cls := Value.none, data := Data.fields #[] }
noncomputable def o_49 (P : Params) : Obj := { cls := Value.type "code", data := Data.fields #[Value.str (Str.ofString "__init__") 238, Value.str (Str.ofString "Short.__init__") 239, Value.str (Str.ofString "/claim/cut.py") 240, Value.int 13 0, Value.int 2 0, Value.int 0 0, Value.int 0 0, Value.int 3 0, Value.ref 42, Value.bool true, Value.int 181 0, Value.ref 43, Value.none, Value.ref 44, Value.ref 45, Value.ref 46, Value.int 243 0, Value.int 13 0, Value.str (Str.ofString "/claim/cut.py") 244] }
noncomputable def o_41 (P : Params) : Obj := { cls := Value.none, data := Data.fields #[Value.int 13 0, Value.int 4 0, Value.ref 47] }
noncomputable def o_57 (P : Params) : Obj := { cls := Value.type "tuple", data := Data.seq #[] }
noncomputable def o_37 (P : Params) : Obj := { cls := Value.type "tuple", data := Data.seq #[Value.type "Exception"] }
noncomputable def o_69 (P : Params) : Obj := { cls := Value.type "code", data := Data.fields #[Value.str (Str.ofString "get_whole") 267, Value.str (Str.ofString "get_whole") 268, Value.str (Str.ofString "/claim/cut.py") 269, Value.int 25 0, Value.int 3 0, Value.int 0 0, Value.int 0 0, Value.int 3 0, Value.ref 62, Value.bool true, Value.int 181 0, Value.ref 63, Value.none, Value.ref 64, Value.ref 65, Value.ref 66, Value.int 275 0, Value.int 25 0, Value.str (Str.ofString "/claim/cut.py") 276] }
noncomputable def o_53 (P : Params) : Obj := { cls := Value.type "type", data := Data.cls { name := Str.ofString "Short", bases := [Value.type "Exception"], mro := [Value.ref 51, Value.type "Exception", Value.type "BaseException", Value.type "object"], ns := 50, qualname := Str.ofString "Short" }, slots := #[some (Value.ref 35), none, some (Value.str (Str.ofString "Short") 226), some (Value.str (Str.ofString "Short") 234), some (Value.builtin "Exception.__new__"), some (Value.bool true)] }
noncomputable def o_45 (P : Params) : Obj := { cls := Value.none, data := Data.fields #[] }
noncomputable def o_61 (P : Params) : Obj := { cls := Value.none, data := Data.func { name := Str.ofString "put_whole", qualname := Str.ofString "put_whole", params := pa3, body := FuncBody.stmts bd4, scope := sc5, globals := 0, closure := [], defaults := Value.none, kwdefaults := Value.none } }
noncomputable def o_67 (P : Params) : Obj := { cls := Value.type "tuple", data := Data.seq #[] }
noncomputable def o_51 (P : Params) : Obj := { cls := Value.type "tuple", data := Data.seq #[Value.str (Str.ofString "text") 246] }
noncomputable def o_43 (P : Params) : Obj := { cls := Value.type "frame", slots := #[some (Value.ref 40), some (Value.ref 3), some (Value.ref 37), none, some (Value.str (Str.ofString "quic.errors") 187), none, some (Value.ref 0)] }
noncomputable def o_59 (P : Params) : Obj := { cls := Value.type "tuple", data := Data.seq #[Value.str (Str.ofString "n") 260, Value.str (Str.ofString "size") 261, Value.str (Str.ofString "found") 262, Value.str (Str.ofString "place") 263] }
noncomputable def o_39 (P : Params) : Obj := { cls := Value.type "dict", data := Data.dict #[{ hash := PyData.keyHash P (Str.ofString "__module__"), key := Value.str (Str.ofString "__module__") 233, val := Value.str (Str.ofString "quic.errors") 187 }, { hash := PyData.keyHash P (Str.ofString "__qualname__"), key := Value.str (Str.ofString "__qualname__") 235, val := Value.str (Str.ofString "Short") 234 }, { hash := PyData.keyHash P (Str.ofString "__firstlineno__"), key := Value.str (Str.ofString "__firstlineno__") 237, val := Value.int 11 236 }, { hash := PyData.keyHash P (Str.ofString "__init__"), key := Value.str (Str.ofString "__init__") 245, val := Value.ref 48 }, { hash := PyData.keyHash P (Str.ofString "__static_attributes__"), key := Value.str (Str.ofString "__static_attributes__") 247, val := Value.ref 49 }] 5 }
noncomputable def o_55 (P : Params) : Obj := { cls := Value.type "super", data := Data.fields #[Value.ref 51, Value.ref 51, Value.ref 51] }
noncomputable def o_47 (P : Params) : Obj := { cls := Value.type "tuple", data := Data.seq #[] }
noncomputable def o_63 (P : Params) : Obj := { cls := Value.type "function", data := Data.func { name := Str.ofString "put_whole", qualname := Str.ofString "put_whole", params := pa3, body := FuncBody.stmts bd4, scope := sc5, globals := 3, closure := [], defaults := Value.none, kwdefaults := Value.none, pyModule := Value.str (Str.ofString "quic.varint") 255, code := Value.ref 60 } }
noncomputable def o_34 (P : Params) : Obj := { cls := Value.none, data := Data.dict #[{ hash := PyData.keyHash P (Str.ofString "type.__subclasses__.Exception.0"), key := Value.str (Str.ofString "type.__subclasses__.Exception.0") 222, val := Value.int 31 0 }, { hash := PyData.keyHash P (Str.ofString "type.__subclasses__.Exception.n"), key := Value.str (Str.ofString "type.__subclasses__.Exception.n") 223, val := Value.int 2 0 }, { hash := PyData.keyHash P (Str.ofString "type.__subclasses__.Exception.1"), key := Value.str (Str.ofString "type.__subclasses__.Exception.1") 251, val := Value.int 51 0 }] 3 }
noncomputable def o_66 (P : Params) : Obj := { cls := Value.type "tuple", data := Data.seq #[Value.str (Str.ofString "data") 270, Value.str (Str.ofString "at") 271, Value.str (Str.ofString "size") 272, Value.str (Str.ofString "found") 273, Value.str (Str.ofString "octet") 274] }
noncomputable def o_50 (P : Params) : Obj := { cls := Value.type "function", data := Data.func { name := Str.ofString "__init__", qualname := Str.ofString "Short.__init__", params := pa6, body := FuncBody.stmts bd7, scope := sc8, globals := 3, closure := [], defaults := Value.none, kwdefaults := Value.none, pyModule := Value.str (Str.ofString "quic.errors") 187, code := Value.ref 47 } }
noncomputable def o_42 (P : Params) : Obj := { cls := Value.type "code", data := Data.fields #[Value.str (Str.ofString "Short") 228, Value.str (Str.ofString "Short") 229, Value.str (Str.ofString "/claim/cut.py") 230, Value.int 11 0, Value.int 0 0, Value.int 0 0, Value.int 0 0, Value.int 0 0, Value.ref 38, Value.bool false, Value.int 181 0, Value.ref 39, Value.none, Value.none, Value.none, Value.none, Value.int 231 0, Value.int 11 0, Value.str (Str.ofString "/claim/cut.py") 232] }
noncomputable def o_58 (P : Params) : Obj := { cls := Value.none, data := Data.fields #[] }
noncomputable def o_36 (P : Params) : Obj := { cls := Value.none, data := Data.fields #[Value.int 4 0, Value.int 0 0, Value.ref 20, Value.int 11 0, Value.int 0 0, Value.ref 40, Value.int 17 0, Value.int 0 0, Value.ref 60, Value.int 25 0, Value.int 0 0, Value.ref 67] }
noncomputable def o_38 (P : Params) : Obj := { cls := Value.type "builtin_function_or_method", data := Data.fields #[Value.builtin "type.__prepare__", Value.type "type"] }
noncomputable def o_70 (P : Params) : Obj := { cls := Value.type "function", data := Data.func { name := Str.ofString "get_whole", qualname := Str.ofString "get_whole", params := pa9, body := FuncBody.stmts bd10, scope := sc11, globals := 3, closure := [], defaults := Value.none, kwdefaults := Value.none, pyModule := Value.str (Str.ofString "quic.varint") 255, code := Value.ref 67 } }
noncomputable def o_54 (P : Params) : Obj := { cls := Value.type "getset_descriptor", data := Data.fields #[Value.str (Str.ofString "__weakref__") 248, Value.ref 51, Value.builtin "ExceptionGroup.__weakref__", Value.none] }
noncomputable def o_46 (P : Params) : Obj := { cls := Value.type "tuple", data := Data.seq #[Value.str (Str.ofString "self") 241, Value.str (Str.ofString "text") 242] }
noncomputable def o_62 (P : Params) : Obj := { cls := Value.type "code", data := Data.fields #[Value.str (Str.ofString "put_whole") 257, Value.str (Str.ofString "put_whole") 258, Value.str (Str.ofString "/claim/cut.py") 259, Value.int 17 0, Value.int 2 0, Value.int 0 0, Value.int 0 0, Value.int 3 0, Value.ref 55, Value.bool true, Value.int 181 0, Value.ref 56, Value.none, Value.ref 57, Value.ref 58, Value.ref 59, Value.int 264 0, Value.int 17 0, Value.str (Str.ofString "/claim/cut.py") 265] }
noncomputable def o_68 (P : Params) : Obj := { cls := Value.none, data := Data.func { name := Str.ofString "get_whole", qualname := Str.ofString "get_whole", params := pa9, body := FuncBody.stmts bd10, scope := sc11, globals := 0, closure := [], defaults := Value.none, kwdefaults := Value.none } }
noncomputable def o_52 (P : Params) : Obj := { cls := Value.type "dict", data := Data.dict #[{ hash := PyData.keyHash P (Str.ofString "__module__"), key := Value.str (Str.ofString "__module__") 233, val := Value.str (Str.ofString "quic.errors") 187 }, { hash := PyData.keyHash P (Str.ofString "__firstlineno__"), key := Value.str (Str.ofString "__firstlineno__") 237, val := Value.int 11 236 }, { hash := PyData.keyHash P (Str.ofString "__init__"), key := Value.str (Str.ofString "__init__") 245, val := Value.ref 48 }, { hash := PyData.keyHash P (Str.ofString "__static_attributes__"), key := Value.str (Str.ofString "__static_attributes__") 247, val := Value.ref 49 }, { hash := PyData.keyHash P (Str.ofString "__weakref__"), key := Value.str (Str.ofString "__weakref__") 249, val := Value.ref 52 }, { hash := PyData.keyHash P (Str.ofString "__doc__"), key := Value.str (Str.ofString "__doc__") 250, val := Value.none }] 3 }
noncomputable def o_44 (P : Params) : Obj := { cls := Value.type "tuple", data := Data.seq #[] }
noncomputable def o_60 (P : Params) : Obj := { cls := Value.type "tuple", data := Data.seq #[] }
noncomputable def o_40 (P : Params) : Obj := { cls := Value.type "tuple", data := Data.seq #[] }
noncomputable def o_56 (P : Params) : Obj := { cls := Value.type "builtin_function_or_method", data := Data.fields #[Value.builtin "object.__init_subclass__", Value.ref 51] }
noncomputable def o_48 (P : Params) : Obj := { cls := Value.none, data := Data.func { name := Str.ofString "__init__", qualname := Str.ofString "Short.__init__", params := pa6, body := FuncBody.stmts bd7, scope := sc8, globals := 0, closure := [], defaults := Value.none, kwdefaults := Value.none } }
noncomputable def o_64 (P : Params) : Obj := { cls := Value.type "tuple", data := Data.seq #[] }
noncomputable def o_160 (P : Params) : Obj := { cls := Value.type "dict", data := Data.dict #[{ hash := PyData.keyHash P (Str.ofString "__name__"), key := Value.str (Str.ofString "__name__") 165, val := Value.str (Str.ofString "law_no0064_01") 388 }, { hash := PyData.keyHash P (Str.ofString "__doc__"), key := Value.str (Str.ofString "__doc__") 166, val := Value.none }, { hash := PyData.keyHash P (Str.ofString "__package__"), key := Value.str (Str.ofString "__package__") 167, val := Value.none }, { hash := PyData.keyHash P (Str.ofString "__loader__"), key := Value.str (Str.ofString "__loader__") 168, val := Value.builtin "__main__.__loader__#opaque" }, { hash := PyData.keyHash P (Str.ofString "__spec__"), key := Value.str (Str.ofString "__spec__") 169, val := Value.none }, { hash := PyData.keyHash P (Str.ofString "__annotations__"), key := Value.str (Str.ofString "__annotations__") 170, val := Value.ref 6 }, { hash := PyData.keyHash P (Str.ofString "__builtins__"), key := Value.str (Str.ofString "__builtins__") 171, val := Value.ref 4 }, { hash := PyData.keyHash P (Str.ofString "__file__"), key := Value.str (Str.ofString "__file__") 173, val := Value.str (Str.ofString "/claim/cut.py") 172 }, { hash := PyData.keyHash P (Str.ofString "__cached__"), key := Value.str (Str.ofString "__cached__") 174, val := Value.none }, { hash := PyData.keyHash P (Str.ofString "INTERNAL_ERROR"), key := Value.str (Str.ofString "INTERNAL_ERROR") 190, val := Value.int 1 189 }, { hash := PyData.keyHash P (Str.ofString "CRYPTO_ERROR"), key := Value.str (Str.ofString "CRYPTO_ERROR") 192, val := Value.int 256 191 }, { hash := PyData.keyHash P (Str.ofString "QuicError"), key := Value.str (Str.ofString "QuicError") 225, val := Value.ref 31 }, { hash := PyData.keyHash P (Str.ofString "Short"), key := Value.str (Str.ofString "Short") 254, val := Value.ref 51 }, { hash := PyData.keyHash P (Str.ofString "put_whole"), key := Value.str (Str.ofString "put_whole") 266, val := Value.ref 61 }, { hash := PyData.keyHash P (Str.ofString "get_whole"), key := Value.str (Str.ofString "get_whole") 277, val := Value.ref 68 }, { hash := PyData.keyHash P (Str.ofString "CLIENT_HELLO"), key := Value.str (Str.ofString "CLIENT_HELLO") 281, val := Value.int 1 280 }, { hash := PyData.keyHash P (Str.ofString "SERVER_HELLO"), key := Value.str (Str.ofString "SERVER_HELLO") 283, val := Value.int 2 282 }, { hash := PyData.keyHash P (Str.ofString "ENCRYPTED_EXTENSIONS"), key := Value.str (Str.ofString "ENCRYPTED_EXTENSIONS") 285, val := Value.int 8 284 }, { hash := PyData.keyHash P (Str.ofString "ALERT_DECODE"), key := Value.str (Str.ofString "ALERT_DECODE") 287, val := Value.int 50 286 }, { hash := PyData.keyHash P (Str.ofString "CRYPTO_FRAME"), key := Value.str (Str.ofString "CRYPTO_FRAME") 289, val := Value.int 6 288 }, { hash := PyData.keyHash P (Str.ofString "HEAD_SIZE"), key := Value.str (Str.ofString "HEAD_SIZE") 291, val := Value.int 4 290 }, { hash := PyData.keyHash P (Str.ofString "RANDOM_SIZE"), key := Value.str (Str.ofString "RANDOM_SIZE") 293, val := Value.int 8 292 }, { hash := PyData.keyHash P (Str.ofString "tls_error"), key := Value.str (Str.ofString "tls_error") 301, val := Value.ref 75 }, { hash := PyData.keyHash P (Str.ofString "put_message"), key := Value.str (Str.ofString "put_message") 309, val := Value.ref 82 }, { hash := PyData.keyHash P (Str.ofString "split_messages"), key := Value.str (Str.ofString "split_messages") 321, val := Value.ref 89 }, { hash := PyData.keyHash P (Str.ofString "put_field"), key := Value.str (Str.ofString "put_field") 328, val := Value.ref 96 }, { hash := PyData.keyHash P (Str.ofString "read_fields"), key := Value.str (Str.ofString "read_fields") 339, val := Value.ref 103 }, { hash := PyData.keyHash P (Str.ofString "client_hello"), key := Value.str (Str.ofString "client_hello") 345, val := Value.ref 108 }, { hash := PyData.keyHash P (Str.ofString "read_client_hello"), key := Value.str (Str.ofString "read_client_hello") 355, val := Value.ref 115 }, { hash := PyData.keyHash P (Str.ofString "server_hello"), key := Value.str (Str.ofString "server_hello") 362, val := Value.ref 122 }, { hash := PyData.keyHash P (Str.ofString "read_server_hello"), key := Value.str (Str.ofString "read_server_hello") 370, val := Value.ref 129 }, { hash := PyData.keyHash P (Str.ofString "extensions"), key := Value.str (Str.ofString "extensions") 378, val := Value.ref 136 }, { hash := PyData.keyHash P (Str.ofString "read_extensions"), key := Value.str (Str.ofString "read_extensions") 387, val := Value.ref 143 }, { hash := PyData.keyHash P (Str.ofString "_law_take"), key := Value.str (Str.ofString "_law_take") 397, val := Value.ref 150 }, { hash := PyData.keyHash P (Str.ofString "_law_octets"), key := Value.str (Str.ofString "_law_octets") 403, val := Value.ref 155 }, { hash := PyData.keyHash P (Str.ofString "_law_code"), key := Value.str (Str.ofString "_law_code") 411, val := Value.ref 162 }, { hash := PyData.keyHash P (Str.ofString "_law_written"), key := Value.str (Str.ofString "_law_written") 419, val := Value.ref 169 }, { hash := PyData.keyHash P (Str.ofString "_law_cuts_right"), key := Value.str (Str.ofString "_law_cuts_right") 425, val := Value.ref 174 }, { hash := PyData.keyHash P (Str.ofString "_law_long_right"), key := Value.str (Str.ofString "_law_long_right") 435, val := Value.ref 181 }, { hash := PyData.keyHash P (Str.ofString "_law_field"), key := Value.str (Str.ofString "_law_field") 442, val := Value.ref 188 }, { hash := PyData.keyHash P (Str.ofString "_law_hellos_right"), key := Value.str (Str.ofString "_law_hellos_right") 448, val := Value.ref 193 }, { hash := PyData.keyHash P (Str.ofString "law"), key := Value.str (Str.ofString "law") 458, val := Value.ref 200 }] 42 }
noncomputable def o_131 (P : Params) : Obj := { cls := Value.none, data := Data.func { name := Str.ofString "read_server_hello", qualname := Str.ofString "read_server_hello", params := pa12, body := FuncBody.stmts bd13, scope := sc14, globals := 0, closure := [], defaults := Value.none, kwdefaults := Value.none } }
noncomputable def o_197 (P : Params) : Obj := { cls := Value.none, data := Data.func { name := Str.ofString "_law_hellos_right", qualname := Str.ofString "_law_hellos_right", params := pa15, body := FuncBody.stmts bd16, scope := sc17, globals := 0, closure := [], defaults := Value.none, kwdefaults := Value.none } }
noncomputable def o_99 (P : Params) : Obj := { cls := Value.type "code", data := Data.fields #[Value.str (Str.ofString "put_field") 322, Value.str (Str.ofString "put_field") 323, Value.str (Str.ofString "/claim/cut.py") 324, Value.int 56 0, Value.int 1 0, Value.int 0 0, Value.int 0 0, Value.int 3 0, Value.ref 90, Value.bool true, Value.int 181 0, Value.ref 91, Value.none, Value.ref 92, Value.ref 93, Value.ref 94, Value.int 326 0, Value.int 56 0, Value.str (Str.ofString "/claim/cut.py") 327] }
noncomputable def o_165 (P : Params) : Obj := { cls := Value.type "tuple", data := Data.seq #[] }
noncomputable def o_83 (P : Params) : Obj := { cls := Value.type "tuple", data := Data.seq #[] }
noncomputable def o_147 (P : Params) : Obj := { cls := Value.type "function", data := Data.func { name := Str.ofString "read_extensions", qualname := Str.ofString "read_extensions", params := pa18, body := FuncBody.stmts bd19, scope := sc20, globals := 3, closure := [], defaults := Value.none, kwdefaults := Value.none, pyModule := Value.str (Str.ofString "quic.toytls") 278, code := Value.ref 142 } }
noncomputable def o_115 (P : Params) : Obj := { cls := Value.type "tuple", data := Data.seq #[Value.str (Str.ofString "body") 349, Value.str (Str.ofString "random") 350, Value.str (Str.ofString "spoken") 351, Value.str (Str.ofString "params") 352] }
noncomputable def o_181 (P : Params) : Obj := { cls := Value.type "tuple", data := Data.seq #[] }
noncomputable def o_75 (P : Params) : Obj := { cls := Value.type "tuple", data := Data.seq #[Value.str (Str.ofString "alert") 297, Value.str (Str.ofString "text") 298] }
noncomputable def o_139 (P : Params) : Obj := { cls := Value.type "code", data := Data.fields #[Value.str (Str.ofString "extensions") 371, Value.str (Str.ofString "extensions") 372, Value.str (Str.ofString "/claim/cut.py") 373, Value.int 86 0, Value.int 2 0, Value.int 0 0, Value.int 0 0, Value.int 3 0, Value.ref 130, Value.bool true, Value.int 181 0, Value.ref 131, Value.none, Value.ref 132, Value.ref 133, Value.ref 134, Value.int 376 0, Value.int 86 0, Value.str (Str.ofString "/claim/cut.py") 377] }
noncomputable def o_205 (P : Params) : Obj := { cls := Value.type "code", data := Data.fields #[Value.str (Str.ofString "law") 449, Value.str (Str.ofString "law") 450, Value.str (Str.ofString "/claim/cut.py") 451, Value.int 154 0, Value.int 1 0, Value.int 0 0, Value.int 0 0, Value.int 3 0, Value.ref 194, Value.bool true, Value.int 181 0, Value.ref 195, Value.none, Value.ref 196, Value.ref 197, Value.ref 198, Value.int 456 0, Value.int 154 0, Value.str (Str.ofString "/claim/cut.py") 457] }
noncomputable def o_107 (P : Params) : Obj := { cls := Value.type "function", data := Data.func { name := Str.ofString "read_fields", qualname := Str.ofString "read_fields", params := pa21, body := FuncBody.stmts bd22, scope := sc23, globals := 3, closure := [], defaults := Value.none, kwdefaults := Value.none, pyModule := Value.str (Str.ofString "quic.toytls") 278, code := Value.ref 102 } }
noncomputable def o_173 (P : Params) : Obj := { cls := Value.none, data := Data.func { name := Str.ofString "_law_written", qualname := Str.ofString "_law_written", params := pa24, body := FuncBody.stmts bd25, scope := sc26, globals := 0, closure := [], defaults := Value.none, kwdefaults := Value.none } }
noncomputable def o_91 (P : Params) : Obj := { cls := Value.none, data := Data.func { name := Str.ofString "split_messages", qualname := Str.ofString "split_messages", params := pa27, body := FuncBody.stmts bd28, scope := sc29, globals := 0, closure := [], defaults := Value.none, kwdefaults := Value.none } }
noncomputable def o_155 (P : Params) : Obj := { cls := Value.type "tuple", data := Data.seq #[] }
noncomputable def o_123 (P : Params) : Obj := { cls := Value.type "tuple", data := Data.seq #[] }
noncomputable def o_189 (P : Params) : Obj := { cls := Value.none, data := Data.fields #[] }
noncomputable def o_135 (P : Params) : Obj := { cls := Value.none, data := Data.fields #[] }
noncomputable def o_201 (P : Params) : Obj := { cls := Value.none, data := Data.fields #[] }
noncomputable def o_103 (P : Params) : Obj := { cls := Value.type "tuple", data := Data.seq #[Value.str (Str.ofString "data") 332, Value.str (Str.ofString "many") 333, Value.str (Str.ofString "found") 334, Value.str (Str.ofString "at") 335, Value.str (Str.ofString "end") 336] }
noncomputable def o_169 (P : Params) : Obj := { cls := Value.type "tuple", data := Data.seq #[] }
noncomputable def o_87 (P : Params) : Obj := { cls := Value.type "tuple", data := Data.seq #[] }
noncomputable def o_151 (P : Params) : Obj := { cls := Value.type "tuple", data := Data.seq #[] }
noncomputable def o_119 (P : Params) : Obj := { cls := Value.type "function", data := Data.func { name := Str.ofString "read_client_hello", qualname := Str.ofString "read_client_hello", params := pa30, body := FuncBody.stmts bd31, scope := sc32, globals := 3, closure := [], defaults := Value.none, kwdefaults := Value.none, pyModule := Value.str (Str.ofString "quic.toytls") 278, code := Value.ref 114 } }
noncomputable def o_185 (P : Params) : Obj := { cls := Value.none, data := Data.func { name := Str.ofString "_law_long_right", qualname := Str.ofString "_law_long_right", params := pa33, body := FuncBody.stmts bd34, scope := sc35, globals := 0, closure := [], defaults := Value.none, kwdefaults := Value.none } }
noncomputable def o_79 (P : Params) : Obj := { cls := Value.type "function", data := Data.func { name := Str.ofString "tls_error", qualname := Str.ofString "tls_error", params := pa36, body := FuncBody.stmts bd37, scope := sc38, globals := 3, closure := [], defaults := Value.none, kwdefaults := Value.none, pyModule := Value.str (Str.ofString "quic.toytls") 278, code := Value.ref 74 } }
noncomputable def o_143 (P : Params) : Obj := { cls := Value.type "tuple", data := Data.seq #[Value.str (Str.ofString "body") 382, Value.str (Str.ofString "protocol") 383, Value.str (Str.ofString "params") 384] }
noncomputable def o_111 (P : Params) : Obj := { cls := Value.type "code", data := Data.fields #[Value.str (Str.ofString "client_hello") 340, Value.str (Str.ofString "client_hello") 341, Value.str (Str.ofString "/claim/cut.py") 342, Value.int 71 0, Value.int 3 0, Value.int 0 0, Value.int 0 0, Value.int 3 0, Value.ref 104, Value.bool true, Value.int 181 0, Value.ref 105, Value.none, Value.none, Value.none, Value.ref 106, Value.int 343 0, Value.int 71 0, Value.str (Str.ofString "/claim/cut.py") 344] }
noncomputable def o_177 (P : Params) : Obj := { cls := Value.none, data := Data.fields #[] }
noncomputable def o_95 (P : Params) : Obj := { cls := Value.none, data := Data.fields #[] }
noncomputable def o_159 (P : Params) : Obj := { cls := Value.type "function", data := Data.func { name := Str.ofString "_law_octets", qualname := Str.ofString "_law_octets", params := pa39, body := FuncBody.stmts bd40, scope := sc41, globals := 3, closure := [], defaults := Value.none, kwdefaults := Value.none, pyModule := Value.str (Str.ofString "law_no0064_01") 388, code := Value.ref 154 } }
noncomputable def o_127 (P : Params) : Obj := { cls := Value.type "tuple", data := Data.seq #[] }
noncomputable def o_193 (P : Params) : Obj := { cls := Value.type "code", data := Data.fields #[Value.str (Str.ofString "_law_field") 436, Value.str (Str.ofString "_law_field") 437, Value.str (Str.ofString "/claim/cut.py") 438, Value.int 135 0, Value.int 1 0, Value.int 0 0, Value.int 0 0, Value.int 3 0, Value.ref 182, Value.bool true, Value.int 181 0, Value.ref 183, Value.none, Value.ref 184, Value.ref 185, Value.ref 186, Value.int 440 0, Value.int 135 0, Value.str (Str.ofString "/claim/cut.py") 441] }
noncomputable def o_133 (P : Params) : Obj := { cls := Value.type "function", data := Data.func { name := Str.ofString "read_server_hello", qualname := Str.ofString "read_server_hello", params := pa12, body := FuncBody.stmts bd13, scope := sc14, globals := 3, closure := [], defaults := Value.none, kwdefaults := Value.none, pyModule := Value.str (Str.ofString "quic.toytls") 278, code := Value.ref 128 } }
noncomputable def o_199 (P : Params) : Obj := { cls := Value.type "function", data := Data.func { name := Str.ofString "_law_hellos_right", qualname := Str.ofString "_law_hellos_right", params := pa15, body := FuncBody.stmts bd16, scope := sc17, globals := 3, closure := [], defaults := Value.none, kwdefaults := Value.none, pyModule := Value.str (Str.ofString "law_no0064_01") 388, code := Value.ref 192 } }
noncomputable def o_101 (P : Params) : Obj := { cls := Value.type "tuple", data := Data.seq #[] }
noncomputable def o_167 (P : Params) : Obj := { cls := Value.type "code", data := Data.fields #[Value.str (Str.ofString "_law_code") 404, Value.str (Str.ofString "_law_code") 405, Value.str (Str.ofString "/claim/cut.py") 406, Value.int 99 0, Value.int 1 0, Value.int 0 0, Value.int 0 0, Value.int 3 0, Value.ref 156, Value.bool true, Value.int 181 0, Value.ref 157, Value.none, Value.ref 158, Value.ref 159, Value.ref 160, Value.int 409 0, Value.int 99 0, Value.str (Str.ofString "/claim/cut.py") 410] }
noncomputable def o_85 (P : Params) : Obj := { cls := Value.type "code", data := Data.fields #[Value.str (Str.ofString "put_message") 302, Value.str (Str.ofString "put_message") 303, Value.str (Str.ofString "/claim/cut.py") 304, Value.int 42 0, Value.int 2 0, Value.int 0 0, Value.int 0 0, Value.int 3 0, Value.ref 76, Value.bool true, Value.int 181 0, Value.ref 77, Value.none, Value.ref 78, Value.ref 79, Value.ref 80, Value.int 307 0, Value.int 42 0, Value.str (Str.ofString "/claim/cut.py") 308] }
noncomputable def o_149 (P : Params) : Obj := { cls := Value.none, data := Data.fields #[] }
noncomputable def o_117 (P : Params) : Obj := { cls := Value.none, data := Data.func { name := Str.ofString "read_client_hello", qualname := Str.ofString "read_client_hello", params := pa30, body := FuncBody.stmts bd31, scope := sc32, globals := 0, closure := [], defaults := Value.none, kwdefaults := Value.none } }
noncomputable def o_183 (P : Params) : Obj := { cls := Value.type "tuple", data := Data.seq #[Value.str (Str.ofString "box") 429, Value.str (Str.ofString "size") 430] }
noncomputable def o_77 (P : Params) : Obj := { cls := Value.none, data := Data.func { name := Str.ofString "tls_error", qualname := Str.ofString "tls_error", params := pa36, body := FuncBody.stmts bd37, scope := sc38, globals := 0, closure := [], defaults := Value.none, kwdefaults := Value.none } }
noncomputable def o_141 (P : Params) : Obj := { cls := Value.type "tuple", data := Data.seq #[] }
noncomputable def o_109 (P : Params) : Obj := { cls := Value.none, data := Data.fields #[] }
noncomputable def o_175 (P : Params) : Obj := { cls := Value.type "function", data := Data.func { name := Str.ofString "_law_written", qualname := Str.ofString "_law_written", params := pa24, body := FuncBody.stmts bd25, scope := sc26, globals := 3, closure := [], defaults := Value.none, kwdefaults := Value.none, pyModule := Value.str (Str.ofString "law_no0064_01") 388, code := Value.ref 168 } }
noncomputable def o_93 (P : Params) : Obj := { cls := Value.type "function", data := Data.func { name := Str.ofString "split_messages", qualname := Str.ofString "split_messages", params := pa27, body := FuncBody.stmts bd28, scope := sc29, globals := 3, closure := [], defaults := Value.none, kwdefaults := Value.none, pyModule := Value.str (Str.ofString "quic.toytls") 278, code := Value.ref 88 } }
noncomputable def o_157 (P : Params) : Obj := { cls := Value.none, data := Data.func { name := Str.ofString "_law_octets", qualname := Str.ofString "_law_octets", params := pa39, body := FuncBody.stmts bd40, scope := sc41, globals := 0, closure := [], defaults := Value.none, kwdefaults := Value.none } }
noncomputable def o_125 (P : Params) : Obj := { cls := Value.type "code", data := Data.fields #[Value.str (Str.ofString "server_hello") 356, Value.str (Str.ofString "server_hello") 357, Value.str (Str.ofString "/claim/cut.py") 358, Value.int 79 0, Value.int 1 0, Value.int 0 0, Value.int 0 0, Value.int 3 0, Value.ref 116, Value.bool true, Value.int 181 0, Value.ref 117, Value.none, Value.ref 118, Value.ref 119, Value.ref 120, Value.int 360 0, Value.int 79 0, Value.str (Str.ofString "/claim/cut.py") 361] }
noncomputable def o_191 (P : Params) : Obj := { cls := Value.type "tuple", data := Data.seq #[] }
noncomputable def o_73 (P : Params) : Obj := { cls := Value.type "tuple", data := Data.seq #[] }
noncomputable def o_137 (P : Params) : Obj := { cls := Value.type "tuple", data := Data.seq #[] }
noncomputable def o_203 (P : Params) : Obj := { cls := Value.type "tuple", data := Data.seq #[] }
noncomputable def o_105 (P : Params) : Obj := { cls := Value.none, data := Data.func { name := Str.ofString "read_fields", qualname := Str.ofString "read_fields", params := pa21, body := FuncBody.stmts bd22, scope := sc23, globals := 0, closure := [], defaults := Value.none, kwdefaults := Value.none } }
noncomputable def o_171 (P : Params) : Obj := { cls := Value.type "tuple", data := Data.seq #[Value.str (Str.ofString "kind") 415, Value.str (Str.ofString "body") 416] }
noncomputable def o_89 (P : Params) : Obj := { cls := Value.type "tuple", data := Data.seq #[Value.str (Str.ofString "data") 313, Value.str (Str.ofString "most") 314, Value.str (Str.ofString "found") 315, Value.str (Str.ofString "at") 316, Value.str (Str.ofString "size") 317, Value.str (Str.ofString "end") 318] }
noncomputable def o_153 (P : Params) : Obj := { cls := Value.type "code", data := Data.fields #[Value.str (Str.ofString "_law_take") 390, Value.str (Str.ofString "_law_take") 391, Value.str (Str.ofString "/claim/cut.py") 392, Value.int 92 0, Value.int 2 0, Value.int 0 0, Value.int 0 0, Value.int 3 0, Value.ref 144, Value.bool true, Value.int 181 0, Value.ref 145, Value.none, Value.ref 146, Value.ref 147, Value.ref 148, Value.int 395 0, Value.int 92 0, Value.str (Str.ofString "/claim/cut.py") 396] }
noncomputable def o_121 (P : Params) : Obj := { cls := Value.none, data := Data.fields #[] }
noncomputable def o_187 (P : Params) : Obj := { cls := Value.type "function", data := Data.func { name := Str.ofString "_law_long_right", qualname := Str.ofString "_law_long_right", params := pa33, body := FuncBody.stmts bd34, scope := sc35, globals := 3, closure := [], defaults := Value.none, kwdefaults := Value.none, pyModule := Value.str (Str.ofString "law_no0064_01") 388, code := Value.ref 180 } }
noncomputable def o_81 (P : Params) : Obj := { cls := Value.none, data := Data.fields #[] }
noncomputable def o_145 (P : Params) : Obj := { cls := Value.none, data := Data.func { name := Str.ofString "read_extensions", qualname := Str.ofString "read_extensions", params := pa18, body := FuncBody.stmts bd19, scope := sc20, globals := 0, closure := [], defaults := Value.none, kwdefaults := Value.none } }
noncomputable def o_113 (P : Params) : Obj := { cls := Value.type "tuple", data := Data.seq #[] }
noncomputable def o_179 (P : Params) : Obj := { cls := Value.type "code", data := Data.fields #[Value.str (Str.ofString "_law_cuts_right") 420, Value.str (Str.ofString "_law_cuts_right") 421, Value.str (Str.ofString "/claim/cut.py") 422, Value.int 107 0, Value.int 1 0, Value.int 0 0, Value.int 0 0, Value.int 3 0, Value.ref 170, Value.bool true, Value.int 181 0, Value.ref 171, Value.none, Value.none, Value.none, Value.ref 172, Value.int 423 0, Value.int 107 0, Value.str (Str.ofString "/claim/cut.py") 424] }
noncomputable def o_97 (P : Params) : Obj := { cls := Value.type "tuple", data := Data.seq #[] }
noncomputable def o_163 (P : Params) : Obj := { cls := Value.none, data := Data.fields #[] }
noncomputable def o_129 (P : Params) : Obj := { cls := Value.type "tuple", data := Data.seq #[Value.str (Str.ofString "body") 366, Value.str (Str.ofString "random") 367] }
noncomputable def o_195 (P : Params) : Obj := { cls := Value.type "tuple", data := Data.seq #[] }
noncomputable def o_132 (P : Params) : Obj := { cls := Value.type "code", data := Data.fields #[Value.str (Str.ofString "read_server_hello") 363, Value.str (Str.ofString "read_server_hello") 364, Value.str (Str.ofString "/claim/cut.py") 365, Value.int 81 0, Value.int 1 0, Value.int 0 0, Value.int 0 0, Value.int 3 0, Value.ref 123, Value.bool true, Value.int 181 0, Value.ref 124, Value.none, Value.ref 125, Value.ref 126, Value.ref 127, Value.int 368 0, Value.int 81 0, Value.str (Str.ofString "/claim/cut.py") 369] }
noncomputable def o_198 (P : Params) : Obj := { cls := Value.type "code", data := Data.fields #[Value.str (Str.ofString "_law_hellos_right") 443, Value.str (Str.ofString "_law_hellos_right") 444, Value.str (Str.ofString "/claim/cut.py") 445, Value.int 137 0, Value.int 1 0, Value.int 0 0, Value.int 0 0, Value.int 3 0, Value.ref 189, Value.bool true, Value.int 181 0, Value.ref 190, Value.none, Value.none, Value.none, Value.ref 191, Value.int 446 0, Value.int 137 0, Value.str (Str.ofString "/claim/cut.py") 447] }
noncomputable def o_100 (P : Params) : Obj := { cls := Value.type "function", data := Data.func { name := Str.ofString "put_field", qualname := Str.ofString "put_field", params := pa42, body := FuncBody.stmts bd43, scope := sc44, globals := 3, closure := [], defaults := Value.none, kwdefaults := Value.none, pyModule := Value.str (Str.ofString "quic.toytls") 278, code := Value.ref 95 } }
noncomputable def o_166 (P : Params) : Obj := { cls := Value.none, data := Data.func { name := Str.ofString "_law_code", qualname := Str.ofString "_law_code", params := pa45, body := FuncBody.stmts bd46, scope := sc47, globals := 0, closure := [], defaults := Value.none, kwdefaults := Value.none } }
noncomputable def o_84 (P : Params) : Obj := { cls := Value.none, data := Data.func { name := Str.ofString "put_message", qualname := Str.ofString "put_message", params := pa48, body := FuncBody.stmts bd49, scope := sc50, globals := 0, closure := [], defaults := Value.none, kwdefaults := Value.none } }
noncomputable def o_148 (P : Params) : Obj := { cls := Value.type "tuple", data := Data.seq #[] }
noncomputable def o_116 (P : Params) : Obj := { cls := Value.type "tuple", data := Data.seq #[] }
noncomputable def o_182 (P : Params) : Obj := { cls := Value.none, data := Data.fields #[] }
noncomputable def o_76 (P : Params) : Obj := { cls := Value.type "tuple", data := Data.seq #[] }
noncomputable def o_140 (P : Params) : Obj := { cls := Value.type "function", data := Data.func { name := Str.ofString "extensions", qualname := Str.ofString "extensions", params := pa51, body := FuncBody.stmts bd52, scope := sc53, globals := 3, closure := [], defaults := Value.none, kwdefaults := Value.none, pyModule := Value.str (Str.ofString "quic.toytls") 278, code := Value.ref 135 } }
noncomputable def o_206 (P : Params) : Obj := { cls := Value.type "function", data := Data.func { name := Str.ofString "law", qualname := Str.ofString "law", params := pa54, body := FuncBody.stmts bd55, scope := sc56, globals := 3, closure := [], defaults := Value.none, kwdefaults := Value.none, pyModule := Value.str (Str.ofString "law_no0064_01") 388, code := Value.ref 199 } }
noncomputable def o_108 (P : Params) : Obj := { cls := Value.type "tuple", data := Data.seq #[] }
noncomputable def o_174 (P : Params) : Obj := { cls := Value.type "code", data := Data.fields #[Value.str (Str.ofString "_law_written") 412, Value.str (Str.ofString "_law_written") 413, Value.str (Str.ofString "/claim/cut.py") 414, Value.int 105 0, Value.int 2 0, Value.int 0 0, Value.int 0 0, Value.int 3 0, Value.ref 163, Value.bool true, Value.int 181 0, Value.ref 164, Value.none, Value.ref 165, Value.ref 166, Value.ref 167, Value.int 417 0, Value.int 105 0, Value.str (Str.ofString "/claim/cut.py") 418] }
noncomputable def o_92 (P : Params) : Obj := { cls := Value.type "code", data := Data.fields #[Value.str (Str.ofString "split_messages") 310, Value.str (Str.ofString "split_messages") 311, Value.str (Str.ofString "/claim/cut.py") 312, Value.int 44 0, Value.int 2 0, Value.int 0 0, Value.int 0 0, Value.int 3 0, Value.ref 83, Value.bool true, Value.int 181 0, Value.ref 84, Value.none, Value.ref 85, Value.ref 86, Value.ref 87, Value.int 319 0, Value.int 44 0, Value.str (Str.ofString "/claim/cut.py") 320] }
noncomputable def o_156 (P : Params) : Obj := { cls := Value.none, data := Data.fields #[] }
noncomputable def o_124 (P : Params) : Obj := { cls := Value.none, data := Data.func { name := Str.ofString "server_hello", qualname := Str.ofString "server_hello", params := pa57, body := FuncBody.stmts bd58, scope := sc59, globals := 0, closure := [], defaults := Value.none, kwdefaults := Value.none } }
noncomputable def o_190 (P : Params) : Obj := { cls := Value.type "tuple", data := Data.seq #[Value.str (Str.ofString "data") 439] }
noncomputable def o_161 (P : Params) : Obj := { cls := Value.none, data := Data.fields #[Value.int 4 0, Value.int 0 0, Value.ref 20, Value.int 11 0, Value.int 0 0, Value.ref 40, Value.int 17 0, Value.int 0 0, Value.ref 60, Value.int 25 0, Value.int 0 0, Value.ref 67, Value.int 40 0, Value.int 0 0, Value.ref 74, Value.int 42 0, Value.int 0 0, Value.ref 81, Value.int 44 0, Value.int 0 0, Value.ref 88, Value.int 56 0, Value.int 0 0, Value.ref 95, Value.int 58 0, Value.int 0 0, Value.ref 102, Value.int 71 0, Value.int 0 0, Value.ref 107, Value.int 74 0, Value.int 0 0, Value.ref 114, Value.int 79 0, Value.int 0 0, Value.ref 121, Value.int 81 0, Value.int 0 0, Value.ref 128, Value.int 86 0, Value.int 0 0, Value.ref 135, Value.int 88 0, Value.int 0 0, Value.ref 142, Value.int 92 0, Value.int 0 0, Value.ref 149, Value.int 97 0, Value.int 0 0, Value.ref 154, Value.int 99 0, Value.int 0 0, Value.ref 161, Value.int 105 0, Value.int 0 0, Value.ref 168, Value.int 107 0, Value.int 0 0, Value.ref 173, Value.int 126 0, Value.int 0 0, Value.ref 180, Value.int 135 0, Value.int 0 0, Value.ref 187, Value.int 137 0, Value.int 0 0, Value.ref 192, Value.int 154 0, Value.int 0 0, Value.ref 199] }
noncomputable def o_136 (P : Params) : Obj := { cls := Value.type "tuple", data := Data.seq #[Value.str (Str.ofString "protocol") 374, Value.str (Str.ofString "params") 375] }
noncomputable def o_202 (P : Params) : Obj := { cls := Value.type "tuple", data := Data.seq #[Value.str (Str.ofString "script") 452, Value.str (Str.ofString "seed") 453, Value.str (Str.ofString "one") 454, Value.str (Str.ofString "box") 455] }
noncomputable def o_104 (P : Params) : Obj := { cls := Value.type "tuple", data := Data.seq #[] }
noncomputable def o_170 (P : Params) : Obj := { cls := Value.none, data := Data.fields #[] }
noncomputable def o_88 (P : Params) : Obj := { cls := Value.none, data := Data.fields #[] }
noncomputable def o_152 (P : Params) : Obj := { cls := Value.none, data := Data.func { name := Str.ofString "_law_take", qualname := Str.ofString "_law_take", params := pa60, body := FuncBody.stmts bd61, scope := sc62, globals := 0, closure := [], defaults := Value.none, kwdefaults := Value.none } }
noncomputable def o_120 (P : Params) : Obj := { cls := Value.type "tuple", data := Data.seq #[] }
noncomputable def o_186 (P : Params) : Obj := { cls := Value.type "code", data := Data.fields #[Value.str (Str.ofString "_law_long_right") 426, Value.str (Str.ofString "_law_long_right") 427, Value.str (Str.ofString "/claim/cut.py") 428, Value.int 126 0, Value.int 1 0, Value.int 0 0, Value.int 0 0, Value.int 3 0, Value.ref 175, Value.bool true, Value.int 181 0, Value.ref 176, Value.none, Value.ref 177, Value.ref 178, Value.ref 179, Value.int 433 0, Value.int 126 0, Value.str (Str.ofString "/claim/cut.py") 434] }
noncomputable def o_80 (P : Params) : Obj := { cls := Value.type "tuple", data := Data.seq #[] }
noncomputable def o_144 (P : Params) : Obj := { cls := Value.type "tuple", data := Data.seq #[] }
noncomputable def o_112 (P : Params) : Obj := { cls := Value.type "function", data := Data.func { name := Str.ofString "client_hello", qualname := Str.ofString "client_hello", params := pa63, body := FuncBody.stmts bd64, scope := sc65, globals := 3, closure := [], defaults := Value.none, kwdefaults := Value.none, pyModule := Value.str (Str.ofString "quic.toytls") 278, code := Value.ref 107 } }
noncomputable def o_178 (P : Params) : Obj := { cls := Value.none, data := Data.func { name := Str.ofString "_law_cuts_right", qualname := Str.ofString "_law_cuts_right", params := pa66, body := FuncBody.stmts bd67, scope := sc68, globals := 0, closure := [], defaults := Value.none, kwdefaults := Value.none } }
noncomputable def o_96 (P : Params) : Obj := { cls := Value.type "tuple", data := Data.seq #[Value.str (Str.ofString "data") 325] }
noncomputable def o_162 (P : Params) : Obj := { cls := Value.type "tuple", data := Data.seq #[] }
noncomputable def o_128 (P : Params) : Obj := { cls := Value.none, data := Data.fields #[] }
noncomputable def o_194 (P : Params) : Obj := { cls := Value.type "function", data := Data.func { name := Str.ofString "_law_field", qualname := Str.ofString "_law_field", params := pa69, body := FuncBody.stmts bd70, scope := sc71, globals := 3, closure := [], defaults := Value.none, kwdefaults := Value.none, pyModule := Value.str (Str.ofString "law_no0064_01") 388, code := Value.ref 187 } }
noncomputable def o_134 (P : Params) : Obj := { cls := Value.type "tuple", data := Data.seq #[] }
noncomputable def o_200 (P : Params) : Obj := { cls := Value.type "tuple", data := Data.seq #[] }
noncomputable def o_102 (P : Params) : Obj := { cls := Value.none, data := Data.fields #[] }
noncomputable def o_168 (P : Params) : Obj := { cls := Value.type "function", data := Data.func { name := Str.ofString "_law_code", qualname := Str.ofString "_law_code", params := pa45, body := FuncBody.stmts bd46, scope := sc47, globals := 3, closure := [], defaults := Value.none, kwdefaults := Value.none, pyModule := Value.str (Str.ofString "law_no0064_01") 388, code := Value.ref 161 } }
noncomputable def o_86 (P : Params) : Obj := { cls := Value.type "function", data := Data.func { name := Str.ofString "put_message", qualname := Str.ofString "put_message", params := pa48, body := FuncBody.stmts bd49, scope := sc50, globals := 3, closure := [], defaults := Value.none, kwdefaults := Value.none, pyModule := Value.str (Str.ofString "quic.toytls") 278, code := Value.ref 81 } }
noncomputable def o_150 (P : Params) : Obj := { cls := Value.type "tuple", data := Data.seq #[Value.str (Str.ofString "box") 393, Value.str (Str.ofString "wide") 394] }
noncomputable def o_118 (P : Params) : Obj := { cls := Value.type "code", data := Data.fields #[Value.str (Str.ofString "read_client_hello") 346, Value.str (Str.ofString "read_client_hello") 347, Value.str (Str.ofString "/claim/cut.py") 348, Value.int 74 0, Value.int 1 0, Value.int 0 0, Value.int 0 0, Value.int 3 0, Value.ref 109, Value.bool true, Value.int 181 0, Value.ref 110, Value.none, Value.ref 111, Value.ref 112, Value.ref 113, Value.int 353 0, Value.int 74 0, Value.str (Str.ofString "/claim/cut.py") 354] }
noncomputable def o_184 (P : Params) : Obj := { cls := Value.type "tuple", data := Data.seq #[Value.str (Str.ofString "head") 431, Value.str (Str.ofString "most") 432] }
noncomputable def o_78 (P : Params) : Obj := { cls := Value.type "code", data := Data.fields #[Value.str (Str.ofString "tls_error") 294, Value.str (Str.ofString "tls_error") 295, Value.str (Str.ofString "/claim/cut.py") 296, Value.int 40 0, Value.int 2 0, Value.int 0 0, Value.int 0 0, Value.int 3 0, Value.ref 69, Value.bool true, Value.int 181 0, Value.ref 70, Value.none, Value.ref 71, Value.ref 72, Value.ref 73, Value.int 299 0, Value.int 40 0, Value.str (Str.ofString "/claim/cut.py") 300] }
noncomputable def o_142 (P : Params) : Obj := { cls := Value.none, data := Data.fields #[] }
noncomputable def o_110 (P : Params) : Obj := { cls := Value.none, data := Data.func { name := Str.ofString "client_hello", qualname := Str.ofString "client_hello", params := pa63, body := FuncBody.stmts bd64, scope := sc65, globals := 0, closure := [], defaults := Value.none, kwdefaults := Value.none } }
noncomputable def o_176 (P : Params) : Obj := { cls := Value.type "tuple", data := Data.seq #[] }
noncomputable def o_94 (P : Params) : Obj := { cls := Value.type "tuple", data := Data.seq #[] }
noncomputable def o_158 (P : Params) : Obj := { cls := Value.type "code", data := Data.fields #[Value.str (Str.ofString "_law_octets") 398, Value.str (Str.ofString "_law_octets") 399, Value.str (Str.ofString "/claim/cut.py") 400, Value.int 97 0, Value.int 2 0, Value.int 0 0, Value.int 0 0, Value.int 3 0, Value.ref 151, Value.bool true, Value.int 181 0, Value.ref 152, Value.none, Value.none, Value.none, Value.ref 153, Value.int 401 0, Value.int 97 0, Value.str (Str.ofString "/claim/cut.py") 402] }
noncomputable def o_126 (P : Params) : Obj := { cls := Value.type "function", data := Data.func { name := Str.ofString "server_hello", qualname := Str.ofString "server_hello", params := pa57, body := FuncBody.stmts bd58, scope := sc59, globals := 3, closure := [], defaults := Value.none, kwdefaults := Value.none, pyModule := Value.str (Str.ofString "quic.toytls") 278, code := Value.ref 121 } }
noncomputable def o_192 (P : Params) : Obj := { cls := Value.none, data := Data.func { name := Str.ofString "_law_field", qualname := Str.ofString "_law_field", params := pa69, body := FuncBody.stmts bd70, scope := sc71, globals := 0, closure := [], defaults := Value.none, kwdefaults := Value.none } }
noncomputable def o_74 (P : Params) : Obj := { cls := Value.none, data := Data.fields #[] }
noncomputable def o_138 (P : Params) : Obj := { cls := Value.none, data := Data.func { name := Str.ofString "extensions", qualname := Str.ofString "extensions", params := pa51, body := FuncBody.stmts bd52, scope := sc53, globals := 0, closure := [], defaults := Value.none, kwdefaults := Value.none } }
noncomputable def o_204 (P : Params) : Obj := { cls := Value.none, data := Data.func { name := Str.ofString "law", qualname := Str.ofString "law", params := pa54, body := FuncBody.stmts bd55, scope := sc56, globals := 0, closure := [], defaults := Value.none, kwdefaults := Value.none } }
noncomputable def o_106 (P : Params) : Obj := { cls := Value.type "code", data := Data.fields #[Value.str (Str.ofString "read_fields") 329, Value.str (Str.ofString "read_fields") 330, Value.str (Str.ofString "/claim/cut.py") 331, Value.int 58 0, Value.int 2 0, Value.int 0 0, Value.int 0 0, Value.int 3 0, Value.ref 97, Value.bool true, Value.int 181 0, Value.ref 98, Value.none, Value.ref 99, Value.ref 100, Value.ref 101, Value.int 337 0, Value.int 58 0, Value.str (Str.ofString "/claim/cut.py") 338] }
noncomputable def o_172 (P : Params) : Obj := { cls := Value.type "tuple", data := Data.seq #[] }
noncomputable def o_90 (P : Params) : Obj := { cls := Value.type "tuple", data := Data.seq #[] }
noncomputable def o_154 (P : Params) : Obj := { cls := Value.type "function", data := Data.func { name := Str.ofString "_law_take", qualname := Str.ofString "_law_take", params := pa60, body := FuncBody.stmts bd61, scope := sc62, globals := 3, closure := [], defaults := Value.none, kwdefaults := Value.none, pyModule := Value.str (Str.ofString "law_no0064_01") 388, code := Value.ref 149 } }
noncomputable def o_122 (P : Params) : Obj := { cls := Value.type "tuple", data := Data.seq #[Value.str (Str.ofString "random") 359] }
noncomputable def o_188 (P : Params) : Obj := { cls := Value.type "tuple", data := Data.seq #[] }
noncomputable def o_82 (P : Params) : Obj := { cls := Value.type "tuple", data := Data.seq #[Value.str (Str.ofString "kind") 305, Value.str (Str.ofString "body") 306] }
noncomputable def o_146 (P : Params) : Obj := { cls := Value.type "code", data := Data.fields #[Value.str (Str.ofString "read_extensions") 379, Value.str (Str.ofString "read_extensions") 380, Value.str (Str.ofString "/claim/cut.py") 381, Value.int 88 0, Value.int 1 0, Value.int 0 0, Value.int 0 0, Value.int 3 0, Value.ref 137, Value.bool true, Value.int 181 0, Value.ref 138, Value.none, Value.ref 139, Value.ref 140, Value.ref 141, Value.int 385 0, Value.int 88 0, Value.str (Str.ofString "/claim/cut.py") 386] }
noncomputable def o_114 (P : Params) : Obj := { cls := Value.none, data := Data.fields #[] }
noncomputable def o_180 (P : Params) : Obj := { cls := Value.type "function", data := Data.func { name := Str.ofString "_law_cuts_right", qualname := Str.ofString "_law_cuts_right", params := pa66, body := FuncBody.stmts bd67, scope := sc68, globals := 3, closure := [], defaults := Value.none, kwdefaults := Value.none, pyModule := Value.str (Str.ofString "law_no0064_01") 388, code := Value.ref 173 } }
noncomputable def o_98 (P : Params) : Obj := { cls := Value.none, data := Data.func { name := Str.ofString "put_field", qualname := Str.ofString "put_field", params := pa42, body := FuncBody.stmts bd43, scope := sc44, globals := 0, closure := [], defaults := Value.none, kwdefaults := Value.none } }
noncomputable def o_164 (P : Params) : Obj := { cls := Value.type "tuple", data := Data.seq #[Value.str (Str.ofString "work") 407, Value.str (Str.ofString "e") 408] }
noncomputable def o_130 (P : Params) : Obj := { cls := Value.type "tuple", data := Data.seq #[] }
noncomputable def o_196 (P : Params) : Obj := { cls := Value.none, data := Data.fields #[] }
noncomputable def tree_9 (P : Params) : BT := BT.node (boot_o_0 P) (BT.node (boot_o_1 P) (BT.node (boot_o_3 P) (BT.node (boot_o_7 P) BT.nil BT.nil) (BT.node (o_5 P) BT.nil BT.nil)) (BT.node (boot_o_5 P) (BT.node (boot_o_9 P) BT.nil BT.nil) (BT.node (o_7 P) BT.nil BT.nil))) (BT.node (boot_o_2 P) (BT.node (boot_o_4 P) (BT.node (boot_o_8 P) BT.nil BT.nil) (BT.node (o_6 P) BT.nil BT.nil)) (BT.node (boot_o_6 P) (BT.node (boot_o_10 P) BT.nil BT.nil) (BT.node (o_8 P) BT.nil BT.nil)))
noncomputable def tree_33 (P : Params) : BT := BT.node (boot_o_0 P) (BT.node (boot_o_1 P) (BT.node (o_12 P) (BT.node (boot_o_7 P) (BT.node (o_14 P) (BT.node (o_30 P) BT.nil BT.nil) BT.nil) (BT.node (o_22 P) BT.nil BT.nil)) (BT.node (o_5 P) (BT.node (o_18 P) BT.nil BT.nil) (BT.node (o_26 P) BT.nil BT.nil))) (BT.node (boot_o_5 P) (BT.node (boot_o_9 P) (BT.node (o_16 P) (BT.node (o_32 P) BT.nil BT.nil) BT.nil) (BT.node (o_24 P) BT.nil BT.nil)) (BT.node (o_7 P) (BT.node (o_20 P) BT.nil BT.nil) (BT.node (o_28 P) BT.nil BT.nil)))) (BT.node (o_11 P) (BT.node (boot_o_4 P) (BT.node (boot_o_8 P) (BT.node (o_15 P) (BT.node (o_31 P) BT.nil BT.nil) BT.nil) (BT.node (o_23 P) BT.nil BT.nil)) (BT.node (o_13 P) (BT.node (o_19 P) BT.nil BT.nil) (BT.node (o_27 P) BT.nil BT.nil))) (BT.node (boot_o_6 P) (BT.node (boot_o_10 P) (BT.node (o_17 P) (BT.node (o_33 P) BT.nil BT.nil) BT.nil) (BT.node (o_25 P) BT.nil BT.nil)) (BT.node (o_8 P) (BT.node (o_21 P) BT.nil BT.nil) (BT.node (o_29 P) BT.nil BT.nil))))
noncomputable def tree_70 (P : Params) : BT := BT.node (boot_o_0 P) (BT.node (boot_o_1 P) (BT.node (o_35 P) (BT.node (boot_o_7 P) (BT.node (o_14 P) (BT.node (o_30 P) (BT.node (o_65 P) BT.nil BT.nil) BT.nil) (BT.node (o_49 P) BT.nil BT.nil)) (BT.node (o_22 P) (BT.node (o_41 P) BT.nil BT.nil) (BT.node (o_57 P) BT.nil BT.nil))) (BT.node (o_5 P) (BT.node (o_18 P) (BT.node (o_37 P) (BT.node (o_69 P) BT.nil BT.nil) BT.nil) (BT.node (o_53 P) BT.nil BT.nil)) (BT.node (o_26 P) (BT.node (o_45 P) BT.nil BT.nil) (BT.node (o_61 P) BT.nil BT.nil)))) (BT.node (boot_o_5 P) (BT.node (boot_o_9 P) (BT.node (o_16 P) (BT.node (o_32 P) (BT.node (o_67 P) BT.nil BT.nil) BT.nil) (BT.node (o_51 P) BT.nil BT.nil)) (BT.node (o_24 P) (BT.node (o_43 P) BT.nil BT.nil) (BT.node (o_59 P) BT.nil BT.nil))) (BT.node (o_7 P) (BT.node (o_20 P) (BT.node (o_39 P) BT.nil BT.nil) (BT.node (o_55 P) BT.nil BT.nil)) (BT.node (o_28 P) (BT.node (o_47 P) BT.nil BT.nil) (BT.node (o_63 P) BT.nil BT.nil))))) (BT.node (o_34 P) (BT.node (boot_o_4 P) (BT.node (boot_o_8 P) (BT.node (o_15 P) (BT.node (o_31 P) (BT.node (o_66 P) BT.nil BT.nil) BT.nil) (BT.node (o_50 P) BT.nil BT.nil)) (BT.node (o_23 P) (BT.node (o_42 P) BT.nil BT.nil) (BT.node (o_58 P) BT.nil BT.nil))) (BT.node (o_36 P) (BT.node (o_19 P) (BT.node (o_38 P) (BT.node (o_70 P) BT.nil BT.nil) BT.nil) (BT.node (o_54 P) BT.nil BT.nil)) (BT.node (o_27 P) (BT.node (o_46 P) BT.nil BT.nil) (BT.node (o_62 P) BT.nil BT.nil)))) (BT.node (boot_o_6 P) (BT.node (boot_o_10 P) (BT.node (o_17 P) (BT.node (o_33 P) (BT.node (o_68 P) BT.nil BT.nil) BT.nil) (BT.node (o_52 P) BT.nil BT.nil)) (BT.node (o_25 P) (BT.node (o_44 P) BT.nil BT.nil) (BT.node (o_60 P) BT.nil BT.nil))) (BT.node (o_8 P) (BT.node (o_21 P) (BT.node (o_40 P) BT.nil BT.nil) (BT.node (o_56 P) BT.nil BT.nil)) (BT.node (o_29 P) (BT.node (o_48 P) BT.nil BT.nil) (BT.node (o_64 P) BT.nil BT.nil)))))
noncomputable def tree_206 (P : Params) : BT := BT.node (boot_o_0 P) (BT.node (boot_o_1 P) (BT.node (o_160 P) (BT.node (boot_o_7 P) (BT.node (o_14 P) (BT.node (o_30 P) (BT.node (o_65 P) (BT.node (o_131 P) BT.nil BT.nil) (BT.node (o_197 P) BT.nil BT.nil)) (BT.node (o_99 P) (BT.node (o_165 P) BT.nil BT.nil) BT.nil)) (BT.node (o_49 P) (BT.node (o_83 P) (BT.node (o_147 P) BT.nil BT.nil) BT.nil) (BT.node (o_115 P) (BT.node (o_181 P) BT.nil BT.nil) BT.nil))) (BT.node (o_22 P) (BT.node (o_41 P) (BT.node (o_75 P) (BT.node (o_139 P) BT.nil BT.nil) (BT.node (o_205 P) BT.nil BT.nil)) (BT.node (o_107 P) (BT.node (o_173 P) BT.nil BT.nil) BT.nil)) (BT.node (o_57 P) (BT.node (o_91 P) (BT.node (o_155 P) BT.nil BT.nil) BT.nil) (BT.node (o_123 P) (BT.node (o_189 P) BT.nil BT.nil) BT.nil)))) (BT.node (o_5 P) (BT.node (o_18 P) (BT.node (o_37 P) (BT.node (o_69 P) (BT.node (o_135 P) BT.nil BT.nil) (BT.node (o_201 P) BT.nil BT.nil)) (BT.node (o_103 P) (BT.node (o_169 P) BT.nil BT.nil) BT.nil)) (BT.node (o_53 P) (BT.node (o_87 P) (BT.node (o_151 P) BT.nil BT.nil) BT.nil) (BT.node (o_119 P) (BT.node (o_185 P) BT.nil BT.nil) BT.nil))) (BT.node (o_26 P) (BT.node (o_45 P) (BT.node (o_79 P) (BT.node (o_143 P) BT.nil BT.nil) BT.nil) (BT.node (o_111 P) (BT.node (o_177 P) BT.nil BT.nil) BT.nil)) (BT.node (o_61 P) (BT.node (o_95 P) (BT.node (o_159 P) BT.nil BT.nil) BT.nil) (BT.node (o_127 P) (BT.node (o_193 P) BT.nil BT.nil) BT.nil))))) (BT.node (boot_o_5 P) (BT.node (boot_o_9 P) (BT.node (o_16 P) (BT.node (o_32 P) (BT.node (o_67 P) (BT.node (o_133 P) BT.nil BT.nil) (BT.node (o_199 P) BT.nil BT.nil)) (BT.node (o_101 P) (BT.node (o_167 P) BT.nil BT.nil) BT.nil)) (BT.node (o_51 P) (BT.node (o_85 P) (BT.node (o_149 P) BT.nil BT.nil) BT.nil) (BT.node (o_117 P) (BT.node (o_183 P) BT.nil BT.nil) BT.nil))) (BT.node (o_24 P) (BT.node (o_43 P) (BT.node (o_77 P) (BT.node (o_141 P) BT.nil BT.nil) BT.nil) (BT.node (o_109 P) (BT.node (o_175 P) BT.nil BT.nil) BT.nil)) (BT.node (o_59 P) (BT.node (o_93 P) (BT.node (o_157 P) BT.nil BT.nil) BT.nil) (BT.node (o_125 P) (BT.node (o_191 P) BT.nil BT.nil) BT.nil)))) (BT.node (o_7 P) (BT.node (o_20 P) (BT.node (o_39 P) (BT.node (o_73 P) (BT.node (o_137 P) BT.nil BT.nil) (BT.node (o_203 P) BT.nil BT.nil)) (BT.node (o_105 P) (BT.node (o_171 P) BT.nil BT.nil) BT.nil)) (BT.node (o_55 P) (BT.node (o_89 P) (BT.node (o_153 P) BT.nil BT.nil) BT.nil) (BT.node (o_121 P) (BT.node (o_187 P) BT.nil BT.nil) BT.nil))) (BT.node (o_28 P) (BT.node (o_47 P) (BT.node (o_81 P) (BT.node (o_145 P) BT.nil BT.nil) BT.nil) (BT.node (o_113 P) (BT.node (o_179 P) BT.nil BT.nil) BT.nil)) (BT.node (o_63 P) (BT.node (o_97 P) (BT.node (o_163 P) BT.nil BT.nil) BT.nil) (BT.node (o_129 P) (BT.node (o_195 P) BT.nil BT.nil) BT.nil)))))) (BT.node (o_34 P) (BT.node (boot_o_4 P) (BT.node (boot_o_8 P) (BT.node (o_15 P) (BT.node (o_31 P) (BT.node (o_66 P) (BT.node (o_132 P) BT.nil BT.nil) (BT.node (o_198 P) BT.nil BT.nil)) (BT.node (o_100 P) (BT.node (o_166 P) BT.nil BT.nil) BT.nil)) (BT.node (o_50 P) (BT.node (o_84 P) (BT.node (o_148 P) BT.nil BT.nil) BT.nil) (BT.node (o_116 P) (BT.node (o_182 P) BT.nil BT.nil) BT.nil))) (BT.node (o_23 P) (BT.node (o_42 P) (BT.node (o_76 P) (BT.node (o_140 P) BT.nil BT.nil) (BT.node (o_206 P) BT.nil BT.nil)) (BT.node (o_108 P) (BT.node (o_174 P) BT.nil BT.nil) BT.nil)) (BT.node (o_58 P) (BT.node (o_92 P) (BT.node (o_156 P) BT.nil BT.nil) BT.nil) (BT.node (o_124 P) (BT.node (o_190 P) BT.nil BT.nil) BT.nil)))) (BT.node (o_161 P) (BT.node (o_19 P) (BT.node (o_38 P) (BT.node (o_70 P) (BT.node (o_136 P) BT.nil BT.nil) (BT.node (o_202 P) BT.nil BT.nil)) (BT.node (o_104 P) (BT.node (o_170 P) BT.nil BT.nil) BT.nil)) (BT.node (o_54 P) (BT.node (o_88 P) (BT.node (o_152 P) BT.nil BT.nil) BT.nil) (BT.node (o_120 P) (BT.node (o_186 P) BT.nil BT.nil) BT.nil))) (BT.node (o_27 P) (BT.node (o_46 P) (BT.node (o_80 P) (BT.node (o_144 P) BT.nil BT.nil) BT.nil) (BT.node (o_112 P) (BT.node (o_178 P) BT.nil BT.nil) BT.nil)) (BT.node (o_62 P) (BT.node (o_96 P) (BT.node (o_162 P) BT.nil BT.nil) BT.nil) (BT.node (o_128 P) (BT.node (o_194 P) BT.nil BT.nil) BT.nil))))) (BT.node (boot_o_6 P) (BT.node (boot_o_10 P) (BT.node (o_17 P) (BT.node (o_33 P) (BT.node (o_68 P) (BT.node (o_134 P) BT.nil BT.nil) (BT.node (o_200 P) BT.nil BT.nil)) (BT.node (o_102 P) (BT.node (o_168 P) BT.nil BT.nil) BT.nil)) (BT.node (o_52 P) (BT.node (o_86 P) (BT.node (o_150 P) BT.nil BT.nil) BT.nil) (BT.node (o_118 P) (BT.node (o_184 P) BT.nil BT.nil) BT.nil))) (BT.node (o_25 P) (BT.node (o_44 P) (BT.node (o_78 P) (BT.node (o_142 P) BT.nil BT.nil) BT.nil) (BT.node (o_110 P) (BT.node (o_176 P) BT.nil BT.nil) BT.nil)) (BT.node (o_60 P) (BT.node (o_94 P) (BT.node (o_158 P) BT.nil BT.nil) BT.nil) (BT.node (o_126 P) (BT.node (o_192 P) BT.nil BT.nil) BT.nil)))) (BT.node (o_8 P) (BT.node (o_21 P) (BT.node (o_40 P) (BT.node (o_74 P) (BT.node (o_138 P) BT.nil BT.nil) (BT.node (o_204 P) BT.nil BT.nil)) (BT.node (o_106 P) (BT.node (o_172 P) BT.nil BT.nil) BT.nil)) (BT.node (o_56 P) (BT.node (o_90 P) (BT.node (o_154 P) BT.nil BT.nil) BT.nil) (BT.node (o_122 P) (BT.node (o_188 P) BT.nil BT.nil) BT.nil))) (BT.node (o_29 P) (BT.node (o_48 P) (BT.node (o_82 P) (BT.node (o_146 P) BT.nil BT.nil) BT.nil) (BT.node (o_114 P) (BT.node (o_180 P) BT.nil BT.nil) BT.nil)) (BT.node (o_64 P) (BT.node (o_98 P) (BT.node (o_164 P) BT.nil BT.nil) BT.nil) (BT.node (o_130 P) (BT.node (o_196 P) BT.nil BT.nil) BT.nil))))))
noncomputable def heap_207 (P : Params) : Heap := { objs := { toList := [boot_o_0 P, boot_o_1 P, o_34 P, o_160 P, boot_o_4 P, boot_o_5 P, boot_o_6 P, boot_o_7 P, boot_o_8 P, boot_o_9 P, boot_o_10 P, o_5 P, o_161 P, o_7 P, o_8 P, o_14 P, o_15 P, o_16 P, o_17 P, o_18 P, o_19 P, o_20 P, o_21 P, o_22 P, o_23 P, o_24 P, o_25 P, o_26 P, o_27 P, o_28 P, o_29 P, o_30 P, o_31 P, o_32 P, o_33 P, o_37 P, o_38 P, o_39 P, o_40 P, o_41 P, o_42 P, o_43 P, o_44 P, o_45 P, o_46 P, o_47 P, o_48 P, o_49 P, o_50 P, o_51 P, o_52 P, o_53 P, o_54 P, o_55 P, o_56 P, o_57 P, o_58 P, o_59 P, o_60 P, o_61 P, o_62 P, o_63 P, o_64 P, o_65 P, o_66 P, o_67 P, o_68 P, o_69 P, o_70 P, o_73 P, o_74 P, o_75 P, o_76 P, o_77 P, o_78 P, o_79 P, o_80 P, o_81 P, o_82 P, o_83 P, o_84 P, o_85 P, o_86 P, o_87 P, o_88 P, o_89 P, o_90 P, o_91 P, o_92 P, o_93 P, o_94 P, o_95 P, o_96 P, o_97 P, o_98 P, o_99 P, o_100 P, o_101 P, o_102 P, o_103 P, o_104 P, o_105 P, o_106 P, o_107 P, o_108 P, o_109 P, o_110 P, o_111 P, o_112 P, o_113 P, o_114 P, o_115 P, o_116 P, o_117 P, o_118 P, o_119 P, o_120 P, o_121 P, o_122 P, o_123 P, o_124 P, o_125 P, o_126 P, o_127 P, o_128 P, o_129 P, o_130 P, o_131 P, o_132 P, o_133 P, o_134 P, o_135 P, o_136 P, o_137 P, o_138 P, o_139 P, o_140 P, o_141 P, o_142 P, o_143 P, o_144 P, o_145 P, o_146 P, o_147 P, o_148 P, o_149 P, o_150 P, o_151 P, o_152 P, o_153 P, o_154 P, o_155 P, o_156 P, o_157 P, o_158 P, o_159 P, o_162 P, o_163 P, o_164 P, o_165 P, o_166 P, o_167 P, o_168 P, o_169 P, o_170 P, o_171 P, o_172 P, o_173 P, o_174 P, o_175 P, o_176 P, o_177 P, o_178 P, o_179 P, o_180 P, o_181 P, o_182 P, o_183 P, o_184 P, o_185 P, o_186 P, o_187 P, o_188 P, o_189 P, o_190 P, o_191 P, o_192 P, o_193 P, o_194 P, o_195 P, o_196 P, o_197 P, o_198 P, o_199 P, o_200 P, o_201 P, o_202 P, o_203 P, o_204 P, o_205 P, o_206 P] } }
noncomputable abbrev topE : Env := { scope := RP.main.scope, locals := mainNs, globals := mainNs, cells := [], code := .ref 13, frame := some 14 }
noncomputable abbrev codeE : Code := .body bodyE topE
noncomputable abbrev posA : Pos := { line := 39, col := 0, endLine := 39, endCol := 11 }
noncomputable abbrev posQ : Pos := { line := 4, col := 0, endLine := 10, endCol := 24 }
noncomputable abbrev posZ : Pos := { line := 154, col := 0, endLine := 159, endCol := 83 }
noncomputable def stQ : List Stmt := bodyE.take 4
noncomputable def stA : List Stmt := (bodyE.drop 4).take 12
noncomputable def stB : List Stmt := bodyE.drop 16
theorem st_all : bodyE = stQ ++ (stA ++ (stB ++ [])) := by kernel_rfl
noncomputable abbrev s0 (w : World) (os : OsState) : Shared := ⟨boot_heap w.params, Array.mk [], boot_drawn, boot_toks, os⟩
noncomputable abbrev s1 (w : World) (os : OsState) : SharedT := ⟨tree_9 w.params, 15, {}, Array.mk [], {}, 187, os⟩
noncomputable abbrev sQ (w : World) (os : OsState) : SharedT := ⟨tree_33 w.params, 35, {}, Array.mk [], {}, 226, os⟩
noncomputable abbrev s2 (w : World) (os : OsState) : SharedT := ⟨tree_70 w.params, 69, {}, Array.mk [], {}, 294, os⟩
noncomputable abbrev s3 (w : World) (os : OsState) : SharedT := ⟨tree_206 w.params, 201, {}, Array.mk [], {}, 459, os⟩
noncomputable abbrev s4 (w : World) (os : OsState) : Shared := ⟨heap_207 w.params, Array.mk [], {}, 459, os⟩
theorem top_pre (w : World) : (fun os => topGo treeTable RP w 11 (some (.ref 6)) 12 (s0 w os) (topStub RP)) = fun os => some ((s1 w os).abs, ⟨denote treeTable codeE, codeE, pos0, [topFrame pos0]⟩) := by kernel_rfl
theorem top_blk (w : World) : (fun os => segRun treeTable RP w 11 (some (.ref 6)) 1 1 (s1 w os).abs (blockOf bodyE topE codeE pos0 [topFrame pos0])) = fun os => some (.next, (s1 w os).abs, codeE, pos0) := by kernel_rfl
theorem top_Q (w : World) : (fun os => segRunT treeTable RP w 11 (some (.ref 6)) 1 700 (s1 w os) (piecesOf stQ topE codeE pos0 [topFrame pos0])) = fun os => some (.next, sQ w os, codeE, posQ) := by
  rw [PySem.W.Fast.te10110043849684766642, PySem.W.Fast.te14364793385576792824]
  kernel_rfl
theorem top_A (w : World) : (fun os => segRunT treeTable RP w 11 (some (.ref 6)) 1 700 (sQ w os) (piecesOf stA topE codeE posQ [topFrame pos0])) = fun os => some (.next, s2 w os, codeE, posA) := by
  rw [PySem.W.Fast.te10110043849684766642, PySem.W.Fast.te14364793385576792824]
  kernel_rfl
theorem top_B (w : World) : (fun os => segRunT treeTable RP w 11 (some (.ref 6)) 1 700 (s2 w os) (piecesOf stB topE codeE posA [topFrame pos0])) = fun os => some (.next, s3 w os, codeE, posZ) := by
  rw [PySem.W.Fast.te10110043849684766642, PySem.W.Fast.te14364793385576792824]
  kernel_rfl
theorem top_fin (w : World) : (fun os => topRun treeTable RP w 11 (some (.ref 6)) 2 (s3 w os).abs ⟨doneF .next, codeE, posZ, [topFrame pos0]⟩) = fun os => some (s4 w os) := by kernel_rfl
theorem top_run (w : World) (os : OsState) : topRun treeTable RP w 11 (some (.ref 6)) (12 + (1 + (700 + (700 + (700 + 2))))) (s0 w os) (topStub RP) = some (s4 w os) := by
  have k := piece_app (l := stQ) (rest := stA ++ (stB ++ [])) (segRun_of (congrFun (top_Q w) os)) (piece_app (l := stA) (rest := stB ++ []) (segRun_of (congrFun (top_A w) os)) (piece_app (l := stB) (rest := []) (segRun_of (congrFun (top_B w) os)) (piece_nil (env := topE) (congrFun (top_fin w) os))))
  rw [← st_all] at k
  exact go_top (congrFun (top_pre w) os) (piece_block (congrFun (top_blk w) os) k)
theorem top_open (N : Nat) (hN : Nat.ble 600 N = true) : ∀ w : World, (fencedOpening treeTable RP w N).map (fun s => (s.heap, s.gens, s.drawn, s.toks)) = some (boot_heap w.params, Array.mk [], boot_drawn, boot_toks) :=
  boot_open (by kernel_rfl) hN (fun s => by kernel_rfl)
/-! A judgement beside wpAny: the contexts whose stack bears no code that holds a buffer. bytearray's __init__ looks for one; wpAny is over every stack below a bound, so it cannot say that none is there. -/
noncomputable def holders : List String := Builtin.Bytes.decodersThatHold ++ ["bytearray.__contains__", "bytearray.__mod__", "bytearray.__rmod__", "_struct.pack_into.held", "bytearray.find.held"]
noncomputable def noHold : Code → Bool
  | .builtin id _ => !holders.contains id
  | _ => true
noncomputable def CleanB (l : List (Code × Pos)) : Prop := ∀ x ∈ l, noHold x.1 = true
theorem CleanB.cons {c : Code} {p : Pos} {l : List (Code × Pos)} (h : noHold c = true) (hl : CleanB l) : CleanB ((c, p) :: l) := fun x hx => by
  rcases List.mem_cons.mp hx with rfl | hx
  · exact h
  · exact hl x hx

noncomputable def wpC {α : Type} (M : Model) (A : Around) (t : Sem α) (Q : α → Shared → Prop) (E : Value → Shared → Prop) (s : Shared) : Prop :=
  ∀ Γ p, Γ.In A → noHold Γ.code = true → CleanB Γ.below → Sem.wp M Γ t (fun a _ s' => Q a s') (fun e _ s' => E e s') p s
noncomputable def codeC (M : Model) (A : Around) (c : Code) (R : Result → Shared → Prop) (s : Shared) : Prop :=
  ∀ Γ p, Γ.code = c → Γ.Below A → CleanB Γ.below → wpCode M Γ R p s

section
variable {α β : Type} {M : Model} {A : Around} {E : Value → Shared → Prop} {s : Shared} {env : Env}
theorem wpC_of {t : Sem α} {Q : α → Shared → Prop} (h : wpAny M A t Q E s) : wpC M A t Q E s := fun Γ p hΓ _ _ => h Γ p hΓ
theorem codeC_of {c : Code} {R : Result → Shared → Prop} (h : codeAny M A c R s) : codeC M A c R s := fun Γ p hc hΓ _ => h Γ p hc hΓ
theorem wpC_pure {a : α} {Q : α → Shared → Prop} (h : Q a s) : wpC M A (pure a) Q E s := fun _ _ _ _ _ => h
theorem wpC_mono {t : Sem α} {Q Q' : α → Shared → Prop} {E' : Value → Shared → Prop} (h : wpC M A t Q E s) (hQ : ∀ a s, Q a s → Q' a s) (hE : ∀ e s, E e s → E' e s) : wpC M A t Q' E' s :=
  fun Γ p hΓ hn hb => Sem.wp_mono M Γ t (fun a _ s => hQ a s) (fun e _ s => hE e s) p s (h Γ p hΓ hn hb)
theorem wpC_bind {m : Sem α} {f : α → Sem β} {Q : β → Shared → Prop} (h : wpC M A m (fun a s' => wpC M A (f a) Q E s') E s) : wpC M A (m >>= f) Q E s := fun Γ p hΓ hn hb => by
  rw [Sem.wp_bind']
  exact Sem.wp_mono M Γ m (fun a p' s' h' => h' Γ p' hΓ hn hb) (fun _ _ _ h' => h') p s (h Γ p hΓ hn hb)
theorem wpC_bindA {m : Sem α} {f : α → Sem β} {Q : β → Shared → Prop} (h : wpAny M A m (fun a s' => wpC M A (f a) Q E s') E s) : wpC M A (m >>= f) Q E s := wpC_bind (wpC_of h)
theorem wpC_holding {vs : List Value} {m : Sem α} {Q : α → Shared → Prop} (h : wpC M A m Q E s) : wpC M A (holding vs m) Q E s := fun Γ p hΓ hn hb => by rw [Sem.wp_holding]; exact h Γ p hΓ hn hb
theorem wpC_keep {vs : List Value} {m : Sem α} {Q : α → Shared → Prop} (h : wpC M A m Q E s) : wpC M A (m.keep vs) Q E s := fun Γ p hΓ hn hb => by rw [Sem.wp_keep]; exact h Γ p hΓ hn hb
theorem wpC_standAt {pos : Pos} {Q : Unit → Shared → Prop} (h : Q () s) : wpC M A (standAt pos) Q E s := fun _ _ _ _ _ => h
theorem wpC_eq {t : Sem α} {a : α} {Q : α → Shared → Prop} (e : t = pure a) (h : Q a s) : wpC M A t Q E s := e ▸ wpC_pure h
theorem wpC_onRaise {m : Sem α} {k : Value → Sem Unit} {Q : α → Shared → Prop} (h : wpC M A m Q (fun e s' => wpC M A (k e) (fun _ s'' => E e s'') E s') s) : wpC M A (m.onRaise k) Q E s := fun Γ p hΓ hn hb => by
  rw [Sem.wp_onRaise]
  exact Sem.wp_mono M Γ m (fun _ _ _ h' => h') (fun e p' s' h' => h' Γ p' hΓ hn hb) p s (h Γ p hΓ hn hb)
theorem wpC_tryCatch {m : Sem α} {k : Value → Sem α} {Q : α → Shared → Prop} (h : wpC M A m Q (fun e s' => wpC M A (k e) Q E s') s) : wpC M A (tryCatch m k) Q E s := fun Γ p hΓ hn hb => by
  rw [Sem.wp_tryCatch']
  exact Sem.wp_mono M Γ m (fun _ _ _ h' => h') (fun e p' s' h' => h' Γ p' hΓ hn hb) p s (h Γ p hΓ hn hb)
theorem wpC_attempt {m : Sem α} {Q : Except Value α → Shared → Prop} (h : wpC M A m (fun a => Q (.ok a)) (fun e => Q (.error e)) s) : wpC M A m.attempt Q E s := fun Γ p hΓ hn hb => by rw [Sem.wp_attempt]; exact h Γ p hΓ hn hb
theorem wpC_operate {vs : List Value} {m : Sem Value} {Q : Value → Shared → Prop} (h : wpC M A m Q E s) : wpC M A (operate vs m) Q E s := fun Γ p hΓ hn hb => by rw [Sem.wp_operate]; exact h Γ p hΓ hn hb

theorem codeC_mono {c : Code} {R R' : Result → Shared → Prop} (h : codeC M A c R s) (hR : ∀ r s, R r s → R' r s) : codeC M A c R' s := fun Γ p hc hΓ hb => wpCode_mono hR (h Γ p hc hΓ hb)
theorem wpC_run {c : Code} {h : Option Value} {Q : Flow → Shared → Prop} (hc : codeC M (A.mark h) c (fun r s' => match r with | .ok f => Q f s' | .error e => E e s') s) (hnb : h ≠ some byPass := by intro x; cases x) : wpC M A (run c h) Q E s :=
  fun Γ p hΓ hn hb => by rw [Sem.wp_run]; exact hc _ p rfl (hΓ.enter c h p hnb) (hb.cons hn)
theorem wpC_runValue {c : Code} {Q : Value → Shared → Prop} (hc : codeC M A c (fun r s' => match r with | .ok (.ret v) => Q v s' | .ok _ => False | .error e => E e s') s) : wpC M A (runValue c) Q E s :=
  fun Γ p hΓ hn hb => by rw [Sem.wp_runValue]; exact hc _ p rfl (hΓ.enter c none p (by intro x; cases x)) (hb.cons hn)
theorem wpC_call {f : Value} {pos : List Value} {kw : List (PySem.Str × Value)} {Q : Value → Shared → Prop} (hc : codeC M A (.call f ⟨pos, kw⟩) (fun r s' => match r with | .ok (.ret v) => Q v s' | .ok _ => False | .error e => E e s') s) : wpC M A (call f pos kw) Q E s := wpC_runValue hc
theorem codeC_of_tree {c : Code} {R : Result → Shared → Prop} (hn : noHold c = true)
    (h : wpC M (A.under c) (M.den c) (fun fin s' => match fin with | .done f => R (.ok f) s' | .again c' => c'.quiet = true ∧ codeC M A c' R s') (fun e s' => R (.error e) s') s) : codeC M A c R s := fun Γ p hc hΓ hb => by
  rw [wpCode_iff_wp, hc]
  refine Sem.wp_mono M Γ _ (fun fin p' s' h' => ?_) (fun _ _ _ h' => h') p s (h Γ p (hc ▸ hΓ.in) (hc ▸ hn) hb)
  cases fin with
  | done f => exact h'
  | again c' => exact ⟨h'.1, h'.2 (Γ.goto c') p' rfl (hΓ.goto c') hb⟩

/-! the nodes on the way down to put_whole -/
theorem wpC_execs_cons {st rest} {Q : Flow → Shared → Prop} (h : wpC M A (exec st env) (fun f s' => match f with | .next => wpC M A (execs rest env) Q E s' | f => Q f s') E s) : wpC M A (execs (st :: rest) env) Q E s := by
  rw [execs_cons]
  refine wpC_bind (wpC_mono h (fun f s' h' => ?_) fun _ _ x => x)
  cases f <;> first | exact h' | exact wpC_pure h'
theorem wpC_Return {e pos} {Q : Flow → Shared → Prop} (h : wpC M A (eval e env) (fun v => Q (.ret v)) E s) : wpC M A (exec (.Return (some e) pos) env) Q E s := by
  rw [exec_Return_some]
  exact wpC_bind (wpC_standAt (wpC_bind (wpC_mono h (fun v s' h' => wpC_pure h') fun _ _ x => x)))
theorem wpC_Assign {x pos' value pos} {Q : Flow → Shared → Prop} (h : wpC M A (eval value env) (fun v s₁ => wpAny M A (storeName env x v) (fun _ => Q .next) E s₁) E s)
    (hs : swapsWith value (some (.Name x pos')) pos.line env = pure false := by rfl) : wpC M A (exec (.Assign [.Name x pos'] value pos) env) Q E s := by
  rw [exec_Assign_Name env x pos' value pos hs]
  refine wpC_bind (wpC_standAt (wpC_bind (wpC_mono h (fun v s' h' => wpC_bind (wpC_standAt (wpC_bind ?_))) fun _ _ x => x)))
  exact wpC_of (wpAny_bindName (wpAny_mono h' (fun _ _ q => wpC_pure q) fun _ _ x => x))
theorem wpC_If {test body orelse pos} {Q : Flow → Shared → Prop} (h : wpC M A (isTrue test env (eval test env)) (fun b s₂ => if b then wpC M A (execs body env) Q E s₂ else wpC M A (execs orelse env) Q E s₂) E s) :
    wpC M A (exec (.If test body orelse pos) env) Q E s := by
  rw [exec_If]
  refine wpC_bind (wpC_standAt (wpC_bind (wpC_mono h (fun b s' h' => ?_) fun _ _ x => x)))
  cases b <;> exact h'
theorem wpC_BinOp {l op r pos} {Q : Value → Shared → Prop} (h : wpC M A (eval l env) (fun a s₁ => wpC M A (eval r env) (fun b s₂ => wpC M A (binaryOp op a b) Q E s₂) E s₁) E s) : wpC M A (eval (.BinOp l op r pos) env) Q E s := by
  rw [eval_BinOp]
  exact wpC_bind (wpC_mono h (fun a s₁ h₁ => wpC_bind (wpC_holding (wpC_mono h₁ (fun b s₂ h₂ => wpC_bind (wpC_standAt (wpC_operate h₂))) fun _ _ x => x))) fun _ _ x => x)
theorem wpC_isTrue_Compare1 {l op r pos whole} {Q : Bool → Shared → Prop}
    (h : wpC M A (eval l env) (fun a s₁ => wpC M A (eval r env) (fun b s₂ => wpC M A (compareOp op a b) (fun c s₃ => wpC M A (truthy c) Q E s₃) E s₂) E s₁) E s)
    (hm : behindInMarks op r = false := by with_unfolding_all rfl) : wpC M A (isTrue (.Compare l [op] [r] pos) env whole) Q E s := by
  rw [isTrue_Compare1, markedBehindIn_of_false hm]
  exact wpC_bind (wpC_mono h (fun a s₁ h₁ => wpC_bind (wpC_holding (wpC_mono h₁ (fun b s₂ h₂ => wpC_bind (wpC_standAt (wpC_bind (wpC_operate (wpC_mono h₂ (fun c s₃ h₃ => wpC_holding h₃) fun _ _ x => x)))))
    fun _ _ x => x))) fun _ _ x => x)
theorem wpC_isTrue_or {x rest pos whole} {Q : Bool → Shared → Prop} (h : wpC M A (isTrue x env (eval x env)) (fun c s' => if c then Q true s' else wpC M A (isTrue (.BoolOp .Or rest pos) env whole) Q E s') E s) :
    wpC M A (isTrue (.BoolOp .Or (x :: rest) pos) env whole) Q E s := by
  show wpC M A (do
    match BoolOp.Or, ← isTrue x env (eval x env) with
    | .And, false => pure false
    | .Or, true => pure true
    | _, _ => allTrue .Or rest env) Q E s
  refine wpC_bind (wpC_mono h (fun c s' h' => ?_) fun _ _ x => x)
  cases c with
  | false => exact h'
  | true => exact wpC_pure h'
theorem wpC_isTrue_or_nil {pos whole} {Q : Bool → Shared → Prop} (h : Q false s) : wpC M A (isTrue (.BoolOp .Or [] pos) env whole) Q E s := wpC_of (isTrue_or_nil h)
theorem wpC_BoolOp_one {op e pos} {Q : Value → Shared → Prop} (h : wpC M A (eval e env) Q E s) : wpC M A (eval (.BoolOp op [e] pos) env) Q E s := h
theorem wpC_BoolOp_and {e₁ e₂ rest pos} {Q : Value → Shared → Prop}
    (h : wpC M A (eval e₁ env) (fun v s₁ => wpC M A (truthy v) (fun c s₂ => if c then wpC M A (eval (.BoolOp .And (e₂ :: rest) pos) env) Q E s₂ else Q v s₂) E s₁) E s) : wpC M A (eval (.BoolOp .And (e₁ :: e₂ :: rest) pos) env) Q E s := by
  show wpC M A (do
    let v ← eval e₁ env
    standAt pos
    let c ← holding [v] (truthy v)
    match BoolOp.And, c with
    | .And, false | .Or, true => pure v
    | _, _ => boolOp pos .And (eval e₂ env :: evalEach rest env)) Q E s
  refine wpC_bind (wpC_mono h (fun v s₁ h₁ => wpC_bind (wpC_standAt (wpC_bind (wpC_holding (wpC_mono h₁ (fun c s₂ h₂ => ?_) fun _ _ x => x))))) fun _ _ x => x)
  cases c with
  | false => exact wpC_pure h₂
  | true => exact h₂
theorem wpC_Subscript {value slice pos} {Q : Value → Shared → Prop} (h : wpC M A (eval value env) (fun o s₁ => wpAny M A (eval slice env) (fun i s₂ => wpAny M A (subscriptTail value slice o i) Q E s₂) E s₁) E s) :
    wpC M A (eval (.Subscript value slice pos) env) Q E s := by
  rw [eval_Subscript]
  exact wpC_bind (wpC_mono h (fun o s₁ h₁ => wpC_of (wpAny_bind (wpAny_holding (wpAny_mono h₁ (fun i s₂ h₂ => wpAny_bind (wpAny_standAt h₂)) fun _ _ x => x)))) fun _ _ x => x)
theorem wpC_Call {func : PySem.Expr} {args : List PySem.Expr} {pos : Pos} {Q : Value → Shared → Prop}
    (h : wpAny M A (eval func env) (fun f s₁ => wpC M A (callWith pos f [] (backTo pos (starEach args env)) []) Q E s₁) E s)
    (he : eval (.Call func args [] pos) env = (do callWith pos (← eval func env) [] (backTo pos (starEach args env)) (backToKw pos (keywordEach [] env))) := by rfl) : wpC M A (eval (.Call func args [] pos) env) Q E s := by
  rw [he]; exact wpC_bindA h
theorem wpC_args_nil {pos : Pos} {Q : List Value → Shared → Prop} (h : Q [] s) : wpC M A (spliced (backTo pos (starEach [] env))) Q E s := wpC_pure h
theorem wpC_args_cons {e : PySem.Expr} {rest : List PySem.Expr} {pos : Pos} {Q : List Value → Shared → Prop}
    (h : wpC M A (eval e env) (fun v s₁ => wpC M A (spliced (backTo pos (starEach rest env))) (fun vs s₂ => Q (v :: vs) s₂) E s₁) E s)
    (he : starEach (e :: rest) env = (false, eval e env) :: starEach rest env := by rfl) : wpC M A (spliced (backTo pos (starEach (e :: rest) env))) Q E s := by
  rw [he]
  show wpC M A (spliced ((false, eval e env) :: backTo pos (starEach rest env))) Q E s
  rw [spliced]
  refine wpC_bind (wpC_mono h (fun v s₁ h₁ => ?_) fun _ _ x => x)
  simp only [Bool.false_eq_true, if_false]
  exact wpC_bind (wpC_pure (wpC_bind (wpC_holding (wpC_mono h₁ (fun vs s₂ h₂ => wpC_pure h₂) fun _ _ x => x))))
theorem wpC_callWith_of {P : Heap → Prop} {pos : Pos} {f : Value} {first : List Value} {e : PySem.Expr} {rest : List PySem.Expr} {Q : Value → Shared → Prop}
    (hk : ∀ h, P h → ∃ k, (k = Keeper.frame ∨ k = Keeper.machine ∨ k = Keeper.boundFrame) ∧ Looks M h (keeperOf f) k)
    (h : wpC M A (spliced (backTo pos (starEach (e :: rest) env))) (fun vs s₁ => P s₁.heap ∧ wpC M A (call f (first ++ vs)) Q E s₁) E s)
    (he : starEach (e :: rest) env = (false, eval e env) :: starEach rest env := by rfl) (hplain : (backTo pos (starEach rest env)).any (·.1) = false := by rfl) :
    wpC M A (callWith pos f first (backTo pos (starEach (e :: rest) env)) []) Q E s := by
  have hargs : wpC M A (evalArgs f true (backTo pos (starEach (e :: rest) env)) []) (fun a s₁ => P s₁.heap ∧ wpC M A (call f (first ++ a.pos) a.kw) Q E s₁) E s := by
    rw [he] at h ⊢
    unfold evalArgs
    show wpC M A (spliced ((false, eval e env) :: backTo pos (starEach rest env)) >>= _) _ E s
    refine wpC_bind (wpC_mono h (fun vs s' h' => ?_) fun _ _ x => x)
    exact wpC_holding (wpC_bind (wpC_pure (wpC_bind (wpC_pure (wpC_pure h')))))
  have hpl : ((backTo pos (starEach (e :: rest) env)).any (·.1) || ([] : List (Option PySem.Str × Sem Value)).any (·.1.isNone)) = false := by
    rw [he]
    show ((false || (backTo pos (starEach rest env)).any (·.1)) || false) = false
    rw [hplain]; rfl
  unfold callWith
  refine wpC_bind (wpC_holding (wpC_mono hargs (fun a s₁ h₁ => wpC_bind (wpC_standAt ?_)) fun _ _ x => x))
  obtain ⟨k, hk', L⟩ := hk _ h₁.1
  simp only [hpl]
  refine wpC_bindA (L.here ?_)
  have tail : ∀ {t : Sem Value}, wpC M A t Q E s₁ → wpC M A (t >>= fun r => holding [r] point >>= fun _ => pure r) Q E s₁ :=
    fun ht => wpC_bind (wpC_mono ht (fun r s₂ hr => wpC_of (wpAny_bind (wpAny_holding (wpAny_point (wpAny_pure hr))))) fun _ _ x => x)
  have marked (mk : Value) : wpC M A (callMarked mk f (first ++ a.pos) a.kw) Q E s₁ := by unfold callMarked; exact wpC_keep h₁.2
  rcases hk' with rfl | rfl | rfl <;> dsimp only <;> first | exact tail h₁.2 | (split <;> first | exact tail h₁.2 | exact tail (marked _))
theorem wpC_callWith {K : Frag} {pos : Pos} {f : Value} {first : List Value} {e : PySem.Expr} {rest : List PySem.Expr} {Q : Value → Shared → Prop} (hk : keepIn K f = true)
    (h : wpC M A (spliced (backTo pos (starEach (e :: rest) env))) (fun vs s₁ => K.In s₁.heap ∧ wpC M A (call f (first ++ vs)) Q E s₁) E s)
    (he : starEach (e :: rest) env = (false, eval e env) :: starEach rest env := by rfl) (hplain : (backTo pos (starEach rest env)).any (·.1) = false := by rfl) :
    wpC M A (callWith pos f first (backTo pos (starEach (e :: rest) env)) []) Q E s := wpC_callWith_of (keeps_K hk) h he hplain
theorem wpC_callWith_type {T : String} {pos : Pos} {first : List Value} {e : PySem.Expr} {rest : List PySem.Expr} {Q : Value → Shared → Prop}
    (h : wpC M A (spliced (backTo pos (starEach (e :: rest) env))) (fun vs s₁ => wpC M A (call (.type T) (first ++ vs)) Q E s₁) E s)
    (he : starEach (e :: rest) env = (false, eval e env) :: starEach rest env := by rfl) (hplain : (backTo pos (starEach rest env)).any (·.1) = false := by rfl) :
    wpC M A (callWith pos (.type T) first (backTo pos (starEach (e :: rest) env)) []) Q E s :=
  wpC_callWith_of (P := fun _ => True) (fun _ _ => ⟨.machine, .inr (.inl rfl), Looks.of_pure rfl⟩) (wpC_mono h (fun _ _ x => ⟨trivial, x⟩) fun _ _ x => x) he hplain
theorem wpC_callWith_builtin {T : String} {pos : Pos} {first : List Value} {e : PySem.Expr} {rest : List PySem.Expr} {Q : Value → Shared → Prop}
    (h : wpC M A (spliced (backTo pos (starEach (e :: rest) env))) (fun vs s₁ => wpC M A (call (.builtin T) (first ++ vs)) Q E s₁) E s)
    (he : starEach (e :: rest) env = (false, eval e env) :: starEach rest env := by rfl) (hplain : (backTo pos (starEach rest env)).any (·.1) = false := by rfl) :
    wpC M A (callWith pos (.builtin T) first (backTo pos (starEach (e :: rest) env)) []) Q E s :=
  wpC_callWith_of (P := fun _ => True) (fun _ _ => ⟨.machine, .inr (.inl rfl), Looks.of_pure rfl⟩) (wpC_mono h (fun _ _ x => ⟨trivial, x⟩) fun _ _ x => x) he hplain
end
/-! the head, for a judgement over clean contexts: the claim's caller stands alone on its stack -/
theorem thread_endsC {prog : Program} {w : World} {t : Sem PySem.Fin} {s : Shared} {R : Result → Shared → Prop} (hreg : s.asleep)
    (h : wpC (model prog w) callerA t (fun fin s' => ∃ f, fin = .done f ∧ (R (.ok f) s' ∧ leftWithCleanup s'.gens = false)) (fun e s' => R (.error e) s' ∧ leftWithCleanup s'.gens = false) s) :
    ∃ n r s' s'', runN (denote table) prog w n s ⟨t, .builtin "claim.caller" {}, default, []⟩ = .halted (outcomeOf r) s' ∧
      schedN (denote table) prog w n (.single s ⟨t, .builtin "claim.caller" {}, default, []⟩) = .halted (outcomeOf r) s' ∧ s'.forget = s''.forget ∧ R r s'' := by
  have hwp : Sem.wp (model prog w) ⟨.builtin "claim.caller" {}, none, none, [], none⟩ t (Sem.finPost (model prog w) ⟨.builtin "claim.caller" {}, none, none, [], none⟩ fun r s' => R r s' ∧ leftWithCleanup s'.gens = false)
      (fun e _ s' => R (.error e) s' ∧ leftWithCleanup s'.gens = false) default s := by
    refine Sem.wp_mono _ _ t (fun fin p' s' h' => ?_) (fun _ _ _ h' => h') default s (h _ default caller_in (by decide +kernel) (fun x hx => nomatch hx))
    obtain ⟨f, rfl, hf⟩ := h'
    exact hf
  obtain ⟨n, r, s₁, s₂, hs, hn, hfo, hR⟩ := wp_halts_full (M := model prog w) (R := R) hreg hwp
  exact ⟨n, r, s₂, s₁, hn, hs, hfo, hR⟩

theorem callFromC {c : ClaimW} {tree : List Value → Sem PySem.Fin} {w : World} {s : Shared} {free : Addr → Prop} {gens : Prop} {kept : Heap → Prop} (hz : s.asleep) (hgens : s.gens = #[])
    (hspec : ∀ args, c.pre args = true → WData.layableAll args = true → ∀ ord : List DictEntry → List DictEntry, (∀ l, (ord l).Perm l) →
      ∃ vs s₁, layAllW c.records (classAt s.heap) w.params ord args s = some (vs, s₁) ∧
        wpC (model c.prog w) callerA (tree vs) (fun fin s' => ∃ f, fin = .done f ∧ (c.Ends s args vs s₁ (.ok f) s' ∧ s'.os = s.os ∧ AllBare s'.gens ∧ kept s'.heap))
          (fun e s' => c.Ends s args vs s₁ (.error e) s' ∧ s'.os = s.os ∧ AllBare s'.gens ∧ kept s'.heap) s₁) :
    c.CallFrom (fun vs => ⟨tree vs, .builtin "claim.caller" {}, default, []⟩) w free gens kept s := by
  intro args hpre hlay ord hord
  obtain ⟨vs, s₁, hlaid, hcode⟩ := hspec args hpre hlay ord hord
  have hal := layAllW_rest _ _ _ hlaid
  obtain ⟨k, r, s', s'', hrun, hsched, hfo, hcase, hos, hkp⟩ := thread_endsC (prog := c.prog) (w := w) (t := tree vs) (s := s₁) (R := fun r s' => c.Ends s args vs s₁ r s' ∧ s'.os = s.os ∧ kept s'.heap)
    (Shared.asleep_of_life hal.2.2.2 hz)
    (wpC_mono hcode (by
      rintro fin s' ⟨f, e, h1, h2, h3, h4⟩
      exact ⟨f, e, ⟨h1, h2, h4⟩, leftWithCleanup_false_of_bare h3⟩) (by
      rintro e s' ⟨h1, h2, h3, h4⟩
      exact ⟨⟨h1, h2, h4⟩, leftWithCleanup_false_of_bare h3⟩))
  obtain ⟨eh, _, _, eo, _⟩ := Shared.forget_eq hfo
  have hcase := hcase.congr eh
  have hkp : kept s'.heap := by first | exact eh ▸ hkp | (rw [eh] at hkp; exact hkp) | (rw [← eh] at hkp; exact hkp)
  rw [← eo] at hos
  have hlife : s'.heap.life = s.heap.life := (runN_life _ _ _ hrun).trans hal.2.2.2
  refine ⟨vs, s₁, hlaid, k, _, s', hsched, ?_, (fun _ i x hx => by rw [hgens] at hx; simp at hx), hkp, by rw [hlife], Shared.rest_eq hos⟩
  rcases hcase with ⟨v, rfl, d1, d2, d3, d4, d5⟩ | ⟨e, ob, cls, rfl, d1, d2, d3, d4, d5⟩
  · exact .inl ⟨v, rfl, d1, d2, d3, fun b o y _ => d4 b o y, d5⟩
  · exact .inr ⟨e, ob, cls, rfl, d1, d2, d3, d4, fun b o y _ => d5 b o y⟩

/-- what the walk of the row's def must show, in clean contexts -/
noncomputable abbrev WalkC (q : Program) (loose : List PySem.Str) (XP : (PySem.Str → Option Value) → Heap → Prop) (YP : World → Heap → Prop) (r : RowW) (d : DefRec) (kwd : List (PySem.Str × PySem.Expr)) : Prop :=
  ∀ (w : World) (s₀ s₁ : Shared) (mg mb : PySem.Str → Option Value), Ground q loose r.records XP w s₀ mg mb s₁.heap → YP w s₁.heap → ∀ (a : Addr) (o : Obj) (pm cd doc dV kV : Value), s₁.heap.get? a = some o →
    o.data = .func { docDef d.name d.params d.body d.scope pm cd doc with defaults := dV, kwdefaults := kV } → s₁.heap.CodeRec cd d.name → Dflts mg s₁.heap d.params kwd dV kV → mg d.name = some (.ref a) → s₁.gens = #[] →
    ∀ (args : List WData) (vals : List Value) (as : List Addr), r.claim.pre args = true → WData.layableAll args = true → ReadsAllW r.records (classAt s₀.heap) s₁.heap vals args as → WellAll w.params s₁.heap vals args → (∀ a ∈ as, (a == sysModules) = false) →
      wpC (model r.prog w) callerA (PySem.call (.ref a) vals) (fun v s' => GoodWG r.claim (classAt s₀.heap) (ExcName.means s₀.heap) args s₁ (.ok (.ret v)) s')
        (fun e s' => GoodWG r.claim (classAt s₀.heap) (ExcName.means s₀.heap) args s₁ (.error e) s') s₁

/-- the looks at the state that the top's run leaves (top_run) -/
noncomputable abbrev MyLeft (p q : Program) (loose : List PySem.Str) (Xt : Shared → Bool) {α : Type} (Yf : Shared → α) (Ya : World → α) (N : Nat) : Prop :=
  ∀ w : World, (Nat.ble 2115 N, fun os => ((staticsOk (importedModules p.main.body) (boot_heap w.params) (s4 w os).heap && namesBound p (s4 w os).heap && gensDone (s4 w os) && laidKept (boot_heap w.params) (s4 w os).heap),
      openSeen q loose (importedModules p.main.body) Xt true (s4 w os), Yf (s4 w os))) = (true, fun _ => (true, openGood q loose, Ya w))
theorem MyLeft.left {q : Program} {loose : List PySem.Str} {Xt : Shared → Bool} {α : Type} {Yf : Shared → α} {Ya : World → α} {N : Nat} (h : MyLeft RP q loose Xt Yf Ya N) : LeftO RP q loose Xt Yf Ya N := fun w =>
  LeftO.of_pieces (H₀ := boot_heap) (H₁ := heap_207) (m₀ := 11) (ann := some (.ref 6)) (M := 12 + (1 + (700 + (700 + (700 + 2))))) (top_open N (Nat.ble_eq.mpr (Nat.le_trans (by decide : 600 ≤ 2115) (Nat.ble_eq.mp (congrArg Prod.fst (h w)))))) (fun w => by kernel_rfl) top_run (congrArg Prod.fst (h w)) (fun w => (Prod.mk.inj (h w)).2) w
theorem open_holds {r : OpenRow} {q : Program} {loose : List PySem.Str} {Xt : Shared → Bool} {XP : (PySem.Str → Option Value) → Heap → Prop} {α : Type} {Yf : Shared → α} {Ya : World → α} {YP : World → Heap → Prop} {d : DefRec} {kwd : List (PySem.Str × PySem.Expr)} {N : Nat}
    (left : LeftO r.prog q loose Xt Yf Ya N) (hY : ∀ w s, Yf s = Ya w → YP w s.heap) (hYk : ∀ w h h', YP w h → (∀ b o, h.get? b = some o → h'.get? b = some o) → YP w h')
    (hX : ∀ s, Xt s = true → XP (s.heap.nsMap mainGlobals) s.heap) (hXk : ∀ mg h h', XP mg h → (∀ b o, h.get? b = some o → h'.get? b = some o) → XP mg h')
    (hdef : defOf q r.name = some (d, kwd)) (hp : r.prog.theDef r.name = some (d.params, d.body, d.scope)) (hk : kwWritten? d.params.kwonlyargs d.params.kw_defaults = some kwd) (hRf : ∀ s, Xt s = true → RecFacts r.records s.heap) (hwr : (!r.writes || r.records.isEmpty) = true)
    (k1 : r.wellSaid = true) (ok : (chainsOk q && opensWell r.prog && (frees r.toRowW && r.within.isEmpty)) = true) (hb : r.prog.bare) (hw : r.toRowW.promised)
    (call : WalkC q loose XP YP r.toRowW d kwd) : r.Holds := by
  obtain ⟨ok, k5⟩ := Bool.and_eq_true_iff.mp ok
  obtain ⟨hch, o1⟩ := Bool.and_eq_true_iff.mp ok
  obtain ⟨k5, k6⟩ := Bool.and_eq_true_iff.mp k5
  obtain ⟨hsame, hu, ha, hap, hm⟩ := frees_parts k5
  refine ⟨k1, hw, ⟨hb, o1, by show r.makers.map _ = []; rw [hm]; rfl⟩, hw.witness, fun w => ⟨(left.behind hX hch w).1, fun s' hs' => ?_⟩⟩
  obtain ⟨s₀, hf, hg0, s, hT, hz, hgens, hg, G00, y⟩ := (left.behind (XP := fun mg h => XP mg h ∧ RecFacts r.records h) (fun s hs => ⟨hX s hs, hRf s hs⟩) hch w).2 s' hs'
  have G0 : Ground q loose [] XP w s (s.heap.nsMap mainGlobals) (s.heap.nsMap builtinsNs) s.heap := ⟨G00.T, G00.B, G00.D, G00.TE, G00.TD, G00.W, G00.X.1, G00.cls, G00.has, G00.apart, G00.once, G00.K⟩
  have RF := G00.X.2
  have hT' := hT
  refine ⟨s₀, hf, hg0, s, hT, fun n hn => ?_, RF.1, RF.2.1, ?_⟩
  · obtain rfl : n = r.name := by split at hn <;> simp_all
    exact pinned_of_view hg G0 hdef hp hk
  have hgens : s.gens = #[] := Array.eq_empty_of_size_eq_zero (beq_iff_eq.mp hgens)
  have G : Ground q loose r.records XP w s _ _ s.heap := RF.ground G0
  refine callFromC (c := r.toRowW.claim) hz hgens fun args hpre hlay ord hord => ?_
  obtain ⟨⟨vs, s₁⟩, hlaid⟩ := Option.isSome_iff_exists.mp (layAllW_isSome (P := w.params) (ord := ord) G.has args r.args s (pre_splitW hpre).1)
  have keeps := layAllW_keeps _ _ _ hlaid
  have hal := layAllW_rest _ _ _ hlaid
  obtain ⟨as, hrd, hin, hold⟩ := reads_layAllW hord _ _ _ hlaid hlay s₁.heap (fun _ _ e => e)
  have L : Laid r.records w s s₁ args vs as := ⟨⟨ord, hord, hlaid⟩, hrd, hin, hold, keeps, hal.1.trans hgens, hal.2.2.1⟩
  have G₁ := G.keeps hXk keeps
  obtain ⟨a, o, pm, cd, doc, dV, kV, h1, h2, h3, h4, h5⟩ := G₁.fn hdef
  have h := call w s s₁ _ _ G₁ (hYk _ _ _ (hY w s y) keeps) a o pm cd doc dV kV h2 h3 h4 h5 (defOf_name hdef ▸ h1) L.gens args vs as hpre hlay L.reads L.well (L.low G.low)
  have hi := ident_freeW hu ha hap
  have hwi : r.toRowW.claim.within = [] := List.isEmpty_iff.mp k6
  refine ⟨vs, s₁, hlaid, ?_⟩
  refine wpC_bindA (wpAny_nsGet G₁.T.g ?_)
  rw [h1]
  refine wpC_bind (wpC_mono h (fun v s' g => wpC_pure ?_) fun e s' g => ?_)
  · have z := g.laid (c := r.toRowW.claim) hsame hwi hi L
    exact ⟨_, rfl, z.1, z.2.1, z.2.2, fun q => ⟨namesKept_of hT' hg _ keeps g.2.1.old, noTable hwr q⟩⟩
  · have z := g.laid (c := r.toRowW.claim) hsame hwi hi L
    exact ⟨z.1, z.2.1, z.2.2, fun q => ⟨namesKept_of hT' hg _ keeps g.2.1.old, noTable hwr q⟩⟩
theorem wsaid : OpenLaw.wellSaid PySem.Challenge.rw_no0064_01 = true := by
  unfold OpenLaw.wellSaid OpenRow.wellSaid OpenRow.partSaid looksOpen
  repeat' (with_reducible refine look_both ?_ ?_)
  all_goals decide +kernel
/-- the head of this row; `o_head` finds it by its name -/
theorem PySem.W.holds_open {q : Program} {loose : List PySem.Str} {Xt : Shared → Bool} {XP : (PySem.Str → Option Value) → Heap → Prop} {α : Type} {Yf : Shared → α} {Ya : World → α} {YP : World → Heap → Prop} {d : DefRec} {kwd : List (PySem.Str × PySem.Expr)} {N : Nat}
    (hleft : MyLeft PySem.Challenge.rw_no0064_01.row.prog q loose Xt Yf Ya N) (hY : ∀ w s, Yf s = Ya w → YP w s.heap) (hYk : ∀ w h h', YP w h → (∀ b o, h.get? b = some o → h'.get? b = some o) → YP w h')
    (hX : ∀ s, Xt s = true → XP (s.heap.nsMap mainGlobals) s.heap) (hXk : ∀ mg h h', XP mg h → (∀ b o, h.get? b = some o → h'.get? b = some o) → XP mg h')
    (hdef : defOf q PySem.Challenge.rw_no0064_01.row.name = some (d, kwd)) (hp : PySem.Challenge.rw_no0064_01.row.prog.theDef PySem.Challenge.rw_no0064_01.row.name = some (d.params, d.body, d.scope)) (hk : kwWritten? d.params.kwonlyargs d.params.kw_defaults = some kwd) (hRf : ∀ s, Xt s = true → RecFacts PySem.Challenge.rw_no0064_01.row.records s.heap) (hwr : (!PySem.Challenge.rw_no0064_01.row.writes || PySem.Challenge.rw_no0064_01.row.records.isEmpty) = true)
    (_ : true = true) (ok : (chainsOk q && opensWell PySem.Challenge.rw_no0064_01.row.prog && (frees PySem.Challenge.rw_no0064_01.row.toRowW && PySem.Challenge.rw_no0064_01.row.within.isEmpty)) = true) (hb : PySem.Challenge.rw_no0064_01.row.prog.bare) (hw : PySem.Challenge.rw_no0064_01.row.toRowW.promised)
    (call : WalkC q loose XP YP PySem.Challenge.rw_no0064_01.row.toRowW d kwd) : PySem.Challenge.rw_no0064_01.row.Holds :=
  open_holds hleft.left hY hYk hX hXk hdef hp hk hRf hwr (row_said wsaid) ok hb hw call
set_option maxHeartbeats 8000000 in
open_top htop for PySem.Challenge.rw_no0064_01.row
end Mine
-- Base
namespace Mine
noncomputable abbrev PR : Program := PySem.Challenge.rw_no0064_01.row.prog
theorem fill : PySem.Challenge.rw_no0064_01 = PySem.Challenge.rw_no0064_01 ∧ htop.heap_1 = htop.heap_1 := by
  w_top off
  k_fill
  exact ⟨rfl, rfl⟩

noncomputable abbrev Led := List (Addr × Obj)
noncomputable def Apart (l r : Led) : Prop := ∀ p ∈ l, ∀ q ∈ r, p.1 ≠ q.1

theorem hidden_back {l : List Addr} {h h' : Heap} {b : Addr} (hk : (hideAll h l).StaysIn h') (hb : h'.get? b = none) : (hideAll h l).get? b = none := by
  cases q : (hideAll h l).get? b with
  | none => rfl
  | some o => have := hk b o q; rw [hb] at this; cases this

section
variable {A₀ A : Around} {s : Shared} {base h₀ : Heap} {outer : List Env} {env : Env} {L : Addr} {m : PySem.Str → Option Value} {foot rest : Led}

/-- the ground that a callee stands on: all but what it is lent -/
noncomputable abbrev groundOf (h : Heap) (foot : Led) : Heap := hideAll h (foot.map (·.1))

structure Lent (A : Around) (base h₀ h : Heap) (env : Env) (outer : List Env) (L : Addr) (m : PySem.Str → Option Value) (foot rest : Led) : Prop where
  fr : Fr h₀ L (groundOf h foot) m
  below : Below A base (env :: outer) (groundOf h foot)
  up : h₀.StaysIn (groundOf h foot)
  down : (groundOf h foot).StaysIn h
  back : ∀ h' foot', (groundOf h foot).StaysIn h' → (∀ p ∈ foot', h'.get? p.1 = some p.2 ∧ (groundOf h foot).get? p.1 = none) → Fr h₀ L h' m ∧ News h₀ L h' (foot' ++ rest) ∧ Apart foot' rest

theorem lend (B : Below A₀ base outer h₀) (F : Fr h₀ L s.heap m) (N : News h₀ L s.heap (foot ++ rest)) (ap : Apart foot rest)
    (hA : A.frames = some (env :: outer)) (hf : env.frame = some L) (hke : env.scope.kind = .function) : Lent A base h₀ s.heap env outer L m foot rest := by
  have Nf : News h₀ L s.heap foot := fun p hp => N p (List.mem_append_left _ hp)
  obtain ⟨FG, BG, st, _⟩ := groundX (R := fun _ _ => True) B F Nf hA hf hke
  refine ⟨FG, BG, st, fun b o e => of_hideAll _ e, fun h' foot' hk hfoot => ?_⟩
  have F' : Fr h₀ L h' m := FG.keeps hk
  have restIn : ∀ q ∈ rest, (groundOf s.heap foot).get? q.1 = some q.2 := fun q hq => hideAll_get _ (N q (List.mem_append_right _ hq)).1 fun hm => by
    obtain ⟨p, hp, e⟩ := List.mem_map.mp hm
    exact ap p hp q hq e
  refine ⟨F', fun p hp => ?_, fun p hp q hq e => ?_⟩
  · rcases List.mem_append.mp hp with hp | hp
    · obtain ⟨h1, h2⟩ := hfoot p hp
      refine ⟨h1, fun e => ?_, ?_⟩
      · obtain ⟨oL, _, _, hL, _⟩ := FG.ns
        rw [e, hL] at h2; cases h2
      · cases q : h₀.get? p.1 with
        | none => rfl
        | some o => rw [st _ _ q] at h2; cases h2
    · exact ⟨hk _ _ (restIn p hp), (N p (List.mem_append_right _ hp)).2⟩
  · have := restIn q hq
    rw [← e, (hfoot p hp).2] at this; cases this
end

/-- the frames of a stack -/
noncomputable abbrev framesOf (l : List Env) : List Addr := l.filterMap (·.frame)

/-- the exception is no longer in flight at the entry that it holds, or it holds none -/
noncomputable def Landed (h : Heap) (e : Addr) (old : Value) : Prop := old = .none ∨ ∃ T oT ts, old = .ref T ∧ T ≠ e ∧ h.get? T = some oT ∧ oT.data = .fields ts ∧ ts[3]? = some .none

/-- an object of QuicError with the code 306, its newest entry and its dict -/
structure QX (h : Heap) (e : Addr) (old : Value) (d : Addr) (oe : Obj) : Prop where
  at_ : h.get? e = some oe
  cls : oe.cls = .ref 31
  dict : oe.dict = some d
  fields : ∃ vs, oe.data = .fields vs ∧ vs[1]? = some old
  ne : d ≠ e
  code : ∃ mA t, h.Ns1 d mA ∧ mA "code" = some (.int 306 t)

/-- an object of QuicError that is on its way: it has passed some frames; all else stands -/
structure Flew (fs : List Addr) (h h' : Heap) (e : Addr) : Prop where
  other : ∀ b o, h.get? b = some o → b ∉ fs → h'.get? b = some o
  frame : ∀ b o, h.get? b = some o → b ∈ fs → ∃ sl, h'.get? b = some { o with slots := sl }
  new : h.get? e = none
  there : ∃ d oe T, QX h' e (.ref T) d oe ∧ Landed h' e (.ref T) ∧ h.get? T = none ∧ h.get? d = none

/-- a contract: what a call of the text's def at f gives back, or that it raises (Bad) -/
noncomputable def Ct (w : World) (D : Nat) (f : Addr) (foot : Led) (vs : List Value) (Post : Value → Led → Prop) (Bad : Prop) : Prop :=
  ∀ (p : Program) (loose : List PySem.Str) (mean : ExcName → Option Value) (mg mb : PySem.Str → Option Value) (dp un : Nat) (gd : Option (List Code)) (cn : PySem.Str) (cs : Scope) (a : Addr) (ccd : Value) (cl : List (PySem.Str × Addr)) (outer : List Env)
    (A₀ : Around) (base h₀ : Heap) (L : Addr) (m : PySem.Str → Option Value) (rest : Led) (s : Shared) (Q E : Value → Shared → Prop),
    Below A₀ base outer h₀ → Fr h₀ L s.heap m → (htop.heap_1 w.params).In h₀ → News h₀ L s.heap (foot ++ rest) → Apart foot rest → Top p loose mean mg mb h₀ → cs.kind = .function → dp + D < recursionLimit → un + 40 * D < cLine →
    (∀ r h' tk' foot', Fr h₀ L h' m → News h₀ L h' (foot' ++ rest) → Apart foot' rest → Post r foot' → Q r { s with heap := h', toks := tk' }) →
    (Bad → ∀ e h' tk', Flew (framesOf (envX cn cs L a ccd cl :: outer)) (groundOf s.heap foot) h' e → E (.ref e) { s with heap := h', toks := tk' }) →
    wpAny (model PR w) (ktrTop dp un gd cn cs L a ccd cl outer) (call (.ref f) vs) Q E s

/-- a body has come to its end -/
noncomputable def Back (g : Heap) (L : Addr) (s₁ : Shared) (Post : Value → Led → Prop) (fl : Flow) (s' : Shared) : Prop :=
  ∃ h' tk' m' foot', s' = { s₁ with heap := h', toks := tk' } ∧ Fr g L h' m' ∧ News g L h' foot' ∧ Post (match fl with | .ret v => v | _ => .none) foot'

theorem ct_def {w : World} {D : Nat} {f : Addr} {foot : Led} {vs : List Value} {Post : Value → Led → Prop} {Bad : Prop} {name qual : PySem.Str} {params : Arguments} {body : List Stmt} {scope : Scope} {dV kV doc pm cdv ct oc : Value} {an od : Option Addr} {osl : Array (Option Value)} {binds : List (PySem.Str × Value)}
    (ho : (htop.heap_1 w.params).lookup f = some ⟨oc, od, .func (fnOf name qual params body scope dV kV doc pm an cdv ct), osl⟩)
    (hcd : codeIn (htop.heap_1 w.params) cdv qual = true)
    (hbind : bindArgs (fnOf name qual params body scope dV kV doc pm an cdv ct) ⟨vs, []⟩ = pure binds)
    (hloc : ∀ y ∈ binds, scope.names.lookup y.1 = some .local)
    (hcell : ∀ x ∈ scope.names, x.2 ≠ .cell)
    (hb : ∀ (p : Program) (loose : List PySem.Str) (mean : ExcName → Option Value) (mg mb : PySem.Str → Option Value) (dp un : Nat) (gd : Option (List Code)) (cn : PySem.Str) (cs : Scope) (L a : Addr) (ccd : Value) (cl : List (PySem.Str × Addr)) (outer : List Env) (base g : Heap) (L' : Addr) (s₁ : Shared) (E : Value → Shared → Prop),
      cs.kind = .function → Fr g L' s₁.heap (fun y => binds.reverse.lookup y) → News g L' s₁.heap foot → Below (ktrTop dp un gd cn cs L a ccd cl outer) base (envX cn cs L a ccd cl :: outer) g → (htop.heap_1 w.params).In g → Top p loose mean mg mb g → dp + (D + 1) < recursionLimit → un + 40 * (D + 1) < cLine →
      (Bad → ∀ e h' tk', Flew (framesOf (envX cn cs L a ccd cl :: outer)) g h' e → E (.ref e) { s₁ with heap := h', toks := tk' }) →
      wpAny (model PR w) ((ktrTop dp un gd cn cs L a ccd cl outer).deeper (envOf qual scope L' f cdv)) (execs body (envOf qual scope L' f cdv)) (Back g L' s₁ Post)
        (fun e s' => wpAny (model PR w) ((ktrTop dp un gd cn cs L a ccd cl outer).deeper (envOf qual scope L' f cdv)) (leaving (envOf qual scope L' f cdv) e) (fun _ s'' => E e s'') (fun e' s'' => E e' s'') s') s₁)
    (hco : scope.isCoroutine = false := by rfl) (hgen : scope.isGenerator = false := by rfl) (hk : scope.kind = .function := by rfl) : Ct w (D + 1) f foot vs Post Bad := by
  intro p loose mean mg mb dp un gd cn cs a ccd cl outer A₀ base h₀ L m rest s Q E B F X N ap T hck hd hu hQ hE
  refine wpAny_call ?_
  have G := lend (A := ktrTop dp un gd cn cs L a ccd cl outer) B F N ap rfl rfl hck
  refine codeAny_call_def (fd := fnOf name qual params body scope dV kV doc pm an cdv ct) (body := body) (binds := binds) (show dp < recursionLimit by omega) ((X.keeps F.keep) _ _ ho) rfl (T.nolimit.keeps F.keep) (codeRec_of (X.keeps F.keep) hcd) rfl (BindsTo.of_eq hbind) hcell hloc (fun h₁ hns hk₁ => ?_) hco hgen hk
  have N' : News (groundOf s.heap foot) s.heap.objs.size h₁ foot := fun q hq => by
    have e := (N q (List.mem_append_left _ hq)).1
    exact ⟨hk₁ _ _ e, Nat.ne_of_lt (Heap.lt_size e), hideAll_none _ (List.mem_map_of_mem hq)⟩
  have F' : Fr (groundOf s.heap foot) s.heap.objs.size h₁ (fun y => binds.reverse.lookup y) := ⟨hns, fun b o e => hk₁ b o (G.down b o e), Nat.le_of_eq (hideAll_size _ _)⟩
  refine wpAny_mono (hb p loose mean mg mb dp un gd cn cs L a ccd cl outer base (groundOf s.heap foot) s.heap.objs.size { s with heap := h₁, toks := s.toks + binds.length } E hck F' N' G.below (X.keeps G.up) (T.keeps G.up) hd hu (fun hbad e h' tk' z => hE hbad e h' tk' z)) (fun fl s' hl => ?_) fun _ _ y => y
  obtain ⟨h', tk', m', foot', rfl, F₂, N₂, hP⟩ := hl
  obtain ⟨F₃, N₃, ap₃⟩ := G.back h' foot' F₂.keep (fun q hq => ⟨(N₂ q hq).1, (N₂ q hq).2.2⟩)
  exact hQ _ h' tk' foot' F₃ N₃ ap₃ hP

/-- room for a call: the depth and the units -/
theorem room_d {dp k D n : Nat} (h : dp + n < recursionLimit) (hab : k + D ≤ n) : dp + k + D < recursionLimit := Nat.lt_of_le_of_lt (by rw [Nat.add_assoc]; exact Nat.add_le_add_left hab dp) h
theorem room_u {un k D n : Nat} (h : un + 40 * n < cLine) (hab : k + 40 * D ≤ 40 * n) : un + k + 40 * D < cLine := Nat.lt_of_le_of_lt (by rw [Nat.add_assoc]; exact Nat.add_le_add_left hab un) h
/-- what is to come, behind a name: the goals of a walk stay small -/
theorem wpAny_abs {α : Type} {M : Model} {A : Around} {t : Sem α} {Q : α → Shared → Prop} {E : Value → Shared → Prop} {s : Shared} (h : ∀ Q' : α → Shared → Prop, (∀ a s', Q a s' → Q' a s') → wpAny M A t Q' E s) : wpAny M A t Q E s := h Q fun _ _ x => x
theorem turn_abs {M : Model} {A : Around} {t : Sem Bool} {ex : Sem Flow} {P : Flow → Shared → Prop} {Qn : Shared → Prop} {E : Value → Shared → Prop} {s : Shared} (h : ∀ R : Flow → Shared → Prop, (∀ f s₂, P f s₂ → R f s₂) → wpAny M A t (fun b s₂ => if b = true then wpAny M A ex R E s₂ else Qn s₂) E s) : wpAny M A t (fun b s₂ => if b = true then wpAny M A ex P E s₂ else Qn s₂) E s := h P fun _ _ x => x
theorem step_abs {α : Type} {M : Model} {A : Around} {t : Sem α} {ex : Sem Flow} {P : Flow → Shared → Prop} {E : Value → Shared → Prop} {s : Shared} (h : ∀ R : Flow → Shared → Prop, (∀ f s₂, P f s₂ → R f s₂) → wpAny M A t (fun _ s₂ => wpAny M A ex R E s₂) E s) : wpAny M A t (fun _ s₂ => wpAny M A ex P E s₂) E s := h P fun _ _ x => x
end Mine
-- Rules
namespace Mine
/-! rules of the walk in the form in which this file says bytes: a list of octets -/
section
open PySem.Calls
variable {prog : Program} {w : World} {A : Around} {E : Value → Shared → Prop} {s : Shared} {t u : Tok} {Q : Value → Shared → Prop} {value slice : PySem.Expr} {h₀ : Heap} {L : Addr} {m : PySem.Str → Option Value} {news : Led}

theorem add_b {l r : List UInt8} (hz : l.length + r.length ≤ 16777216) (h : ∀ t' k, Q (.bytes (l ++ r).toArray t') { s with toks := k }) :
    wpAny (model prog w) A (binaryOp .Add (.bytes l.toArray t) (.bytes r.toArray u)) Q E s :=
  KBy.add_bytes (by simpa using hz) fun t' k => by
    have := h t' k
    rwa [List.append_toArray]

theorem len_b {l : List UInt8} (hz : l.length ≤ 16777216) (h : ∀ t' k, Q (.int (l.length : Nat) t') { s with toks := k }) : wpAny (model prog w) A (call (.builtin "len") [.bytes l.toArray t]) Q E s :=
  len_bytes (by simp; omega) (by simpa using h (s.toks + 1) (s.toks + 1 + 1))

noncomputable def ofInts (ns : List Int) : List UInt8 := ns.map fun n => n.toNat.toUInt8
theorem ofInts_length (ns : List Int) : (ofInts ns).length = ns.length := by simp [ofInts]

theorem bytes_b {D : Addr} {vs : List Value} {ns : List Int} (F : Fr h₀ L s.heap m) (N : News h₀ L s.heap news) (hh : A.handled = none) (hl : s.heap.IsList D vs.toArray) (hi : IntsAre vs ns) (hr : KBa.In ns) (hn : ns.length ≤ 16777216)
    (h : ∀ h' t' k, Fr h₀ L h' m → News h₀ L h' news → Q (.bytes (ofInts ns).toArray t') { s with heap := h', toks := k }) : wpAny (model prog w) A (call (.type "bytes") [.ref D]) Q E s :=
  KBa.make_K F N hh hl hi hr hn fun h' t' k F' N' _ => h h' t' k F' N'

theorem getD_toNat (l : List UInt8) (i : Nat) : ((l.getD i 0).toNat : Int) = (l.getD i 0).toNat := rfl

theorem item_b {x : List UInt8} {i : Int} {ui : Tok} (hfit : x.length ≤ 16777216) (h0 : 0 ≤ i) (h1 : i < (x.length : Int)) (h : ∀ t' k, Q (.int (x.getD i.toNat 0).toNat t') { s with toks := k })
    (hs : subscripted slice false (.bytes x.toArray t) (.int i ui) = operate [.bytes x.toArray t, .int i ui] (getItem (.bytes x.toArray t) (.int i ui)) := by with_unfolding_all rfl)
    (ht : ∀ r, letTemporaryGo value (.bytes x.toArray t) r = pure () := by intro _; with_unfolding_all rfl) :
    wpAny (model prog w) A (subscriptTail value slice (.bytes x.toArray t) (.int i ui)) Q E s := KBy.item_N (by omega) h0 h1 (h _ _) hs ht

/-- what a slice of octets is -/
noncomputable def cutOf (x : List UInt8) : Option Int → Option Int → List UInt8
  | lo, hi => (x.drop (lo.elim 0 (clipAt x.length))).take (hi.elim x.length (clipAt x.length) - lo.elim 0 (clipAt x.length))
theorem cutOf_length_le (x : List UInt8) (lo hi : Option Int) : (cutOf x lo hi).length ≤ x.length := by
  unfold cutOf; rw [List.length_take, List.length_drop]; omega
theorem cut_ab (x : List UInt8) {i j : Int} (hi : 0 ≤ i) (hj : 0 ≤ j) : cutOf x (some i) (some j) = (x.drop i.toNat).take (j.toNat - i.toNat) := by
  obtain ⟨a, rfl⟩ := Int.eq_ofNat_of_zero_le hi
  obtain ⟨b, rfl⟩ := Int.eq_ofNat_of_zero_le hj
  unfold cutOf
  simp only [Option.elim, clipAt_nat, Int.toNat_natCast]
  by_cases h : a ≤ x.length
  · rw [Nat.min_eq_left h]
    by_cases h2 : b ≤ x.length
    · rw [Nat.min_eq_left h2]
    · rw [Nat.min_eq_right (by omega), List.take_of_length_le (l := x.drop a) (by rw [List.length_drop]; omega), List.take_of_length_le (by rw [List.length_drop]; omega)]
  · rw [List.drop_of_length_le (by omega : x.length ≤ min a x.length), List.drop_of_length_le (by omega : x.length ≤ a)]; simp
theorem cut_a (x : List UInt8) {i : Int} (hi : 0 ≤ i) : cutOf x (some i) none = x.drop i.toNat := by
  obtain ⟨a, rfl⟩ := Int.eq_ofNat_of_zero_le hi
  unfold cutOf
  simp only [Option.elim, clipAt_nat, Int.toNat_natCast]
  by_cases h : a ≤ x.length
  · rw [Nat.min_eq_left h, List.take_of_length_le (by rw [List.length_drop]; omega)]
  · rw [List.drop_of_length_le (by omega : x.length ≤ min a x.length), List.drop_of_length_le (by omega : x.length ≤ a)]; simp
theorem cut_b (x : List UInt8) {j : Int} (hj : 0 ≤ j) : cutOf x none (some j) = x.take j.toNat := by
  obtain ⟨b, rfl⟩ := Int.eq_ofNat_of_zero_le hj
  unfold cutOf
  simp only [Option.elim, clipAt_nat, Int.toNat_natCast, List.drop_zero, Nat.sub_zero]
  by_cases h2 : b ≤ x.length
  · rw [Nat.min_eq_left h2]
  · rw [Nat.min_eq_right (by omega), List.take_of_length_le (by omega), List.take_of_length_le (by omega)]
theorem cut_last (x : List UInt8) : cutOf x none (some (-1)) = x.take (x.length - 1) := by
  unfold cutOf
  simp only [Option.elim, List.drop_zero, Nat.sub_zero]
  congr 1
  unfold clipAt
  simp
  omega

theorem slice_b {x : List UInt8} {l u : Value} {lo hi : Option Int} (F : Fr h₀ L s.heap m) (N : News h₀ L s.heap news) (hl : IsPart l lo) (hu : IsPart u hi) (hz : x.length ≤ 16777216)
    (h : ∀ h' t' k, Fr h₀ L h' m → News h₀ L h' news → Q (.bytes (cutOf x lo hi).toArray t') { s with heap := h', toks := k })
    (hs : subscripted slice false (.bytes x.toArray t) (.ref s.heap.objs.size) = operate [.ref s.heap.objs.size, .bytes x.toArray t] (getItem (.bytes x.toArray t) (.ref s.heap.objs.size)) := by with_unfolding_all rfl)
    (ht : ∀ r, letTemporaryGo value (.bytes x.toArray t) r = pure () := by intro _; with_unfolding_all rfl) :
    wpAny (model prog w) A (subscriptTail value slice (.bytes x.toArray t) (.ref s.heap.objs.size)) Q E { s with heap := s.heap.push { cls := .type "slice", data := .fields #[l, u, .none] } } :=
  KBc.slice_K F N rfl hl hu (by rw [KBw.ints_length]; simpa using hz) (fun h' t' k F' N' _ => by
    have e : KBy.picked x.toArray lo hi = (cutOf x lo hi).toArray := by
      rw [KBc.picked_eq]
      unfold cutOf
      simp
    rw [e]
    exact h h' t' k F' N') hs ht
theorem eq_b {x y : List UInt8} (h : Q (.bool (x == y)) s) : wpAny (model prog w) A (compareOp .Eq (.bytes x.toArray t) (.bytes y.toArray u)) Q E s := eq_bytes h
theorem ne_b {x y : List UInt8} (h : Q (.bool (x != y)) s) : wpAny (model prog w) A (compareOp .NotEq (.bytes x.toArray t) (.bytes y.toArray u)) Q E s := ne_bytes h
end
end Mine
-- Defs
namespace Mine
theorem fdiv_nat (n k : Nat) : (n : Int).fdiv (k : Int) = ((n / k : Nat) : Int) := by rw [Int.fdiv_eq_ediv_of_nonneg _ (by omega)]; rfl
theorem fmod_nat (n k : Nat) : (n : Int).fmod (k : Int) = ((n % k : Nat) : Int) := by rw [Int.fmod_eq_emod_of_nonneg _ (by omega)]; rfl
theorem fdiv_256 (n : Nat) : (n : Int).fdiv 256 = ((n / 256 : Nat) : Int) := fdiv_nat n 256
theorem fmod_256 (n : Nat) : (n : Int).fmod 256 = ((n % 256 : Nat) : Int) := fmod_nat n 256

/-- two octets, the greater first -/
noncomputable def be2 (n : Nat) : List UInt8 := [(n / 256).toUInt8, (n % 256).toUInt8]
theorem be2_length (n : Nat) : (be2 n).length = 2 := rfl
theorem in2 {n : Nat} (h : n < 65536) : KBa.In [(n : Int).fdiv 256, (n : Int).fmod 256] := by
  intro k hk
  simp only [List.mem_cons, List.not_mem_nil, or_false] at hk
  rcases hk with rfl | rfl
  · rw [fdiv_256]; omega
  · rw [fmod_256]; omega
theorem ofInts2 (n : Nat) : ofInts [(n : Int).fdiv 256, (n : Int).fmod 256] = be2 n := by
  rw [fdiv_256, fmod_256]; rfl

noncomputable def fieldOf (d : List UInt8) : List UInt8 := be2 d.length ++ d
theorem fieldOf_length (d : List UInt8) : (fieldOf d).length = d.length + 2 := by simp [fieldOf, be2_length]; omega

noncomputable def be3 (n : Nat) : List UInt8 := [(n / 65536).toUInt8, (n / 256 % 256).toUInt8, (n % 256).toUInt8]
theorem be3_length (n : Nat) : (be3 n).length = 3 := rfl
theorem fdiv_65536 (n : Nat) : (n : Int).fdiv 65536 = ((n / 65536 : Nat) : Int) := fdiv_nat n 65536
theorem in4 {k n : Nat} (hk : k < 256) (h : n < 16777216) : KBa.In [(k : Int), (n : Int).fdiv 65536, ((n : Int).fdiv 256).fmod 256, (n : Int).fmod 256] := by
  intro x hx
  simp only [List.mem_cons, List.not_mem_nil, or_false] at hx
  rcases hx with rfl | rfl | rfl | rfl
  · omega
  · rw [fdiv_65536]; omega
  · rw [fdiv_256, fmod_256]; omega
  · rw [fmod_256]; omega
noncomputable def writtenOf (k : Nat) (d : List UInt8) : List UInt8 := k.toUInt8 :: (be3 d.length ++ d)
theorem writtenOf_length (k : Nat) (d : List UInt8) : (writtenOf k d).length = d.length + 4 := by simp [writtenOf, be3_length]; omega
theorem ofInts4 (k n : Nat) : ofInts [(k : Int), (n : Int).fdiv 65536, ((n : Int).fdiv 256).fmod 256, (n : Int).fmod 256] = k.toUInt8 :: be3 n := by
  rw [fdiv_65536, fdiv_256, fmod_256, fmod_256]; rfl
end Mine
-- Lists
namespace Mine
section
variable {prog : Program} {w : World} {A : Around} {E : Value → Shared → Prop} {s : Shared} {h₀ : Heap} {L : Addr} {m : PySem.Str → Option Value} {news news' : Led}
theorem len_l {l : Addr} {vs : List Value} {n : Nat} {Q : Value → Shared → Prop} (N : News h₀ L s.heap news) (hm : (l, PySem.W.listOf vs.toArray n) ∈ news) (hz : vs.length ≤ 16777216) (h : ∀ t' k, Q (.int (vs.length : Nat) t') { s with toks := k }) :
    wpAny (model prog w) A (call (.builtin "len") [.ref l]) Q E s :=
  Calls.call_len_list ⟨_, (N _ hm).1, rfl, n, rfl⟩ (by simp; omega) (by simpa using h (s.toks + 1) (s.toks + 1 + 1))
theorem pop0_l {l : Addr} {x : Value} {vs : List Value} {n : Nat} {u : Tok} {Q : Value → Shared → Prop} (F : Fr h₀ L s.heap m) (N : News h₀ L s.heap news) (U : Upd l (PySem.W.listOf (x :: vs).toArray n) (PySem.W.listOf vs.toArray (n + 1)) news news') (hz : vs.length ≤ 1000000)
    (h : ∀ h', Fr h₀ L h' m → News h₀ L h' news' → Q x { s with heap := h' }) : wpAny (model prog w) A (call (.builtin "list.pop") [.ref l, .int 0 u]) Q E s :=
  kl_popAt (k := 0) (p := []) (q := vs) (y := x) F N rfl (by simp [seqIndex?]) rfl U (by rw [sizeLine_eq]; simp; omega) h
end
end Mine
-- CleanCall
namespace Mine
section
variable {prog : Program} {w : World} {A : Around} {s : Shared} {R : Result → Shared → Prop}
theorem codeC_func {body : List Stmt} {env : Env}
    (h : wpC (model prog w) (A.deeper env) (execs body env) (fun f s' => R (.ok (.ret (match f with | .ret v => v | _ => .none))) s')
      (fun e s' => wpAny (model prog w) (A.deeper env) (leaving env e) (fun _ s'' => R (.error e) s'') (fun e' s'' => R (.error e') s'') s') s) : codeC (model prog w) A (.func body env) R s := by
  refine codeC_of_tree rfl ?_
  show wpC _ (A.deeper env) (do point; match ← (execs body env).onRaise (leaving env) with | .ret v => ret v | _ => ret .none) _ _ s
  refine wpC_bindA (wpAny_point (wpC_bind (wpC_onRaise (wpC_mono h (fun f s' h' => ?_) fun _ _ h' => wpC_of h'))))
  cases f <;> exact wpC_pure h'

theorem codeC_call_def {a : Addr} {o : Obj} {fd : FuncData} {body : List Stmt} {args : Args} {binds : List (PySem.Str × Value)}
    (hroom : A.depth < recursionLimit) (ho : s.heap.get? a = some o) (hdata : o.data = .func fd) (hlim : s.heap.NoLimit) (hcd : s.heap.CodeRec fd.code fd.qualname)
    (hbody : fd.body = .stmts body) (hbind : bindArgs fd args = pure binds)
    (hcell : ∀ x ∈ fd.scope.names, x.2 ≠ .cell) (hloc : ∀ x ∈ binds, fd.scope.names.lookup x.1 = some .local)
    (h : ∀ h₀, h₀.Ns s.heap.objs.size (fun x => binds.reverse.lookup x) → (∀ b o, s.heap.get? b = some o → h₀.get? b = some o) →
      wpC (model prog w) (A.deeper (callEnv fd s.heap.objs.size a)) (execs body (callEnv fd s.heap.objs.size a)) (fun f s' => R (.ok (.ret (match f with | .ret v => v | _ => .none))) s')
        (fun e s' => wpAny (model prog w) (A.deeper (callEnv fd s.heap.objs.size a)) (leaving (callEnv fd s.heap.objs.size a) e) (fun _ s'' => R (.error e) s'') (fun e' s'' => R (.error e') s'') s')
        { s with heap := h₀, toks := s.toks + binds.length })
    (hco : fd.scope.isCoroutine = false := by rfl) (hgen : fd.scope.isGenerator = false := by rfl) (hk : fd.scope.kind = .function := by rfl) :
    codeC (model prog w) A (.call (.ref a) args) R s := by
  refine codeC_of_tree rfl ?_
  show wpC _ A.in1 (callAny (.ref a) args) _ _ s
  simp only [callAny]
  refine wpC_bindA (wpAny_load ho ?_)
  obtain ⟨c, oc, vs, tq, hc, hoc, hdc, hq⟩ := hcd
  simp only [hdata, callFunction, hco, hgen, hbody, hc]
  refine wpC_bindA (m := field (.ref c) 1) (wpAny_field hoc hdc hq (wpC_bind (wpC_pure ?_)))
  refine wpC_bindA (wpAny_of_eq hbind ?_)
  refine wpC_bindA (wpAny_newFunctionEnv hcell hloc (fun h₀ hns₀ hsb₀ => ?_) hk)
  have hk₀ : ∀ b o, s.heap.get? b = some o → h₀.get? b = some o := fun b o e => hsb₀.extBut b o (Nat.ne_of_lt (Heap.lt_size e)) (Heap.get?_push_of_some _ e)
  have h' := h h₀ hns₀ hk₀
  unfold callEnv at h'
  rw [hc] at h'
  exact wpC_bindA (wpAny_enterFrame (hlim.keeps hk₀) hroom (wpC_pure ⟨rfl, codeC_func h'⟩))
end

/-- the contract in the judgement of clean stacks -/
noncomputable def CtC (w : World) (D : Nat) (f : Addr) (foot : Led) (vs : List Value) (Post : Value → Led → Prop) : Prop :=
  ∀ (p : Program) (loose : List PySem.Str) (mean : ExcName → Option Value) (mg mb : PySem.Str → Option Value) (dp un : Nat) (gd : Option (List Code)) (cn : PySem.Str) (cs : Scope) (a : Addr) (ccd : Value) (cl : List (PySem.Str × Addr)) (outer : List Env)
    (A₀ : Around) (base h₀ : Heap) (L : Addr) (m : PySem.Str → Option Value) (rest : Led) (s : Shared) (Q E : Value → Shared → Prop),
    Below A₀ base outer h₀ → Fr h₀ L s.heap m → (htop.heap_1 w.params).In h₀ → News h₀ L s.heap (foot ++ rest) → Apart foot rest → Top p loose mean mg mb h₀ → cs.kind = .function → dp + D < recursionLimit → un + 40 * D < cLine →
    (∀ r h' tk' foot', Fr h₀ L h' m → News h₀ L h' (foot' ++ rest) → Apart foot' rest → Post r foot' → Q r { s with heap := h', toks := tk' }) →
    wpC (model PR w) (ktrTop dp un gd cn cs L a ccd cl outer) (call (.ref f) vs) Q E s

theorem Ct.toC {w : World} {D : Nat} {f : Addr} {foot : Led} {vs : List Value} {Post : Value → Led → Prop} (h : Ct w D f foot vs Post False) : CtC w D f foot vs Post :=
  fun p loose mean mg mb dp un gd cn cs a ccd cl outer A₀ base h₀ L m rest s Q E B F X N ap T hck hd hu hQ => wpC_of (h p loose mean mg mb dp un gd cn cs a ccd cl outer A₀ base h₀ L m rest s Q E B F X N ap T hck hd hu hQ fun z => z.elim)

theorem ctc_def {w : World} {D : Nat} {f : Addr} {foot : Led} {vs : List Value} {Post : Value → Led → Prop} {name qual : PySem.Str} {params : Arguments} {body : List Stmt} {scope : Scope} {dV kV doc pm cdv ct oc : Value} {an od : Option Addr} {osl : Array (Option Value)} {binds : List (PySem.Str × Value)}
    (ho : (htop.heap_1 w.params).lookup f = some ⟨oc, od, .func (fnOf name qual params body scope dV kV doc pm an cdv ct), osl⟩)
    (hcd : codeIn (htop.heap_1 w.params) cdv qual = true)
    (hbind : bindArgs (fnOf name qual params body scope dV kV doc pm an cdv ct) ⟨vs, []⟩ = pure binds)
    (hloc : ∀ y ∈ binds, scope.names.lookup y.1 = some .local)
    (hcell : ∀ x ∈ scope.names, x.2 ≠ .cell)
    (hb : ∀ (p : Program) (loose : List PySem.Str) (mean : ExcName → Option Value) (mg mb : PySem.Str → Option Value) (dp un : Nat) (gd : Option (List Code)) (cn : PySem.Str) (cs : Scope) (L a : Addr) (ccd : Value) (cl : List (PySem.Str × Addr)) (outer : List Env) (base g : Heap) (L' : Addr) (s₁ : Shared) (E : Value → Shared → Prop),
      cs.kind = .function → Fr g L' s₁.heap (fun y => binds.reverse.lookup y) → News g L' s₁.heap foot → Below (ktrTop dp un gd cn cs L a ccd cl outer) base (envX cn cs L a ccd cl :: outer) g → (htop.heap_1 w.params).In g → Top p loose mean mg mb g → dp + (D + 1) < recursionLimit → un + 40 * (D + 1) < cLine →
      wpC (model PR w) ((ktrTop dp un gd cn cs L a ccd cl outer).deeper (envOf qual scope L' f cdv)) (execs body (envOf qual scope L' f cdv)) (Back g L' s₁ Post)
        (fun e s' => wpAny (model PR w) ((ktrTop dp un gd cn cs L a ccd cl outer).deeper (envOf qual scope L' f cdv)) (leaving (envOf qual scope L' f cdv) e) (fun _ s'' => E e s'') (fun e' s'' => E e' s'') s') s₁)
    (hco : scope.isCoroutine = false := by rfl) (hgen : scope.isGenerator = false := by rfl) (hk : scope.kind = .function := by rfl) : CtC w (D + 1) f foot vs Post := by
  intro p loose mean mg mb dp un gd cn cs a ccd cl outer A₀ base h₀ L m rest s Q E B F X N ap T hck hd hu hQ
  refine wpC_call ?_
  have G := lend (A := ktrTop dp un gd cn cs L a ccd cl outer) B F N ap rfl rfl hck
  refine codeC_call_def (fd := fnOf name qual params body scope dV kV doc pm an cdv ct) (body := body) (binds := binds) (show dp < recursionLimit by omega) ((X.keeps F.keep) _ _ ho) rfl (T.nolimit.keeps F.keep) (codeRec_of (X.keeps F.keep) hcd) rfl hbind hcell hloc (fun h₁ hns hk₁ => ?_) hco hgen hk
  have N' : News (groundOf s.heap foot) s.heap.objs.size h₁ foot := fun q hq => by
    have e := (N q (List.mem_append_left _ hq)).1
    exact ⟨hk₁ _ _ e, Nat.ne_of_lt (Heap.lt_size e), hideAll_none _ (List.mem_map_of_mem hq)⟩
  have F' : Fr (groundOf s.heap foot) s.heap.objs.size h₁ (fun y => binds.reverse.lookup y) := ⟨hns, fun b o e => hk₁ b o (G.down b o e), Nat.le_of_eq (hideAll_size _ _)⟩
  refine wpC_mono (hb p loose mean mg mb dp un gd cn cs L a ccd cl outer base (groundOf s.heap foot) s.heap.objs.size { s with heap := h₁, toks := s.toks + binds.length } E hck F' N' G.below (X.keeps G.up) (T.keeps G.up) hd hu) (fun fl s' hl => ?_) fun _ _ y => y
  obtain ⟨h', tk', m', foot', rfl, F₂, N₂, hP⟩ := hl
  obtain ⟨F₃, N₃, ap₃⟩ := G.back h' foot' F₂.keep (fun q hq => ⟨(N₂ q hq).1, (N₂ q hq).2.2⟩)
  exact hQ _ h' tk' foot' F₃ N₃ ap₃ hP
end Mine
-- ByteArr
namespace Mine
namespace BA
theorem mro : mroOf (.type "bytearray") = pure [.type "bytearray", .type "object"] := by rw [mroOf_type]; kernel_rfl
theorem look_new : typeLookup (.type "bytearray") "__new__" = pure (some (.builtin "bytearray.__new__")) := by rw [typeLookup_type, builtinLookup_eq_fast]; kernel_rfl
theorem slot_init : Slot "bytearray" "__init__" "bytearray.__init__" :=
  .of (owner := "bytearray") (n := "__init__") (by rw [typeLookup_type, builtinLookup_eq_fast]; kernel_rfl) (by decide +kernel) (by decide +kernel) (by decide +kernel)
    (by first | exact .inl (by decide +kernel) | exact .inr (by decide +kernel)) (by rw [isSubtype_type]; kernel_rfl)
theorem called : TypeCalled "bytearray" "bytearray.__new__" "bytearray.__init__" :=
  ⟨by decide +kernel, by decide +kernel, ⟨_, _, mro⟩, madeBy_type mro look_new (by decide +kernel), by decide +kernel, by rw [isSubtype_type]; kernel_rfl, slot_init⟩
theorem typeCall (a : Value) : checkTypeCall "bytearray" ⟨[a], []⟩ = pure () := by kernel_rfl
theorem newCall (a : Value) : checkBuiltinCall "bytearray.__new__" ⟨[.type "bytearray", a], []⟩ = pure () := by kernel_rfl
theorem plain_new : plainId "bytearray.__new__" = true := by decide +kernel
theorem plain_init : plainId "bytearray.__init__" = true := by decide +kernel
theorem entry_init : entryFor table "bytearray.__init__" = some Builtin.«bytearray.__init__» := by first | exact entryFor_of_fast (by kernel_rfl) | exact entryFor_of_tree (by kernel_rfl)
theorem entry_new : entryFor table "bytearray.__new__" = some Builtin.«list.__new__» := entryFor_alias (id' := "list.__new__") (by kernel_rfl) rfl (by decide +kernel) (by kernel_rfl)
theorem args_init (a v : Value) : argsOk "bytearray.__init__" ⟨[a, v], []⟩ := by unfold argsOk; kernel_rfl
theorem sub_self : isSubtype (.type "bytearray") (.type "bytearray") = pure true := by rw [isSubtype_type]; kernel_rfl
theorem bind (v : Value) : Builtin.Bytes.bindOptional "bytearray.__init__" "bytearray" ["source", "encoding", "errors"] [v] [] = pure [some v, none, none] := by kernel_rfl
end BA
end Mine
-- ByteArr2
namespace Mine
set_option maxRecDepth 1000000 in
set_option maxHeartbeats 4000000 in
theorem BA.owner : ("bytearray.__new__".splitOn ".__new__").headD "" = "bytearray" := by simp +decide [String.splitOn, String.splitOnAux]

section
variable {prog : Program} {w : World} {A : Around} {E : Value → Shared → Prop} {s : Shared}
theorem BA.code_new (a : Value) {Q₁ : Value → Shared → Prop}
    (h : Q₁ (.ref s.heap.objs.size) { s with heap := s.heap.push { cls := .type "bytearray", data := .bytearray #[] } }) :
    codeAny (model prog w) A (.call (.builtin "bytearray.__new__") ⟨[.type "bytearray", a], []⟩) (wants Q₁ E) s := by
  refine codeAny_of_tree ?_
  show wpAny _ A.in1 (do checkBuiltinCall "bytearray.__new__" ⟨[.type "bytearray", a], []⟩; again (.builtin "bytearray.__new__" ⟨[.type "bytearray", a], []⟩)) _ _ s
  refine wpAny_bind (wpAny_of_eq (BA.newCall a) (wpAny_pure ⟨plainId_quiet BA.plain_new _, codeAny_builtin_stack BA.entry_new rfl fun p st => ?_⟩))
  rw [Around.under_plainId BA.plain_new _]
  have hsub := BA.sub_self
  have hown := BA.owner
  obtain ⟨hp, g, d, tk, os⟩ := s
  simp only [hown]
  wp_walk
  exact h

theorem not_dec {id : String} (h : (!holders.contains id) = true) : Builtin.Bytes.decodersThatHold.contains id = false := by
  unfold holders at h
  rw [List.contains_eq_any_beq, List.any_append, Bool.not_eq_true', Bool.or_eq_false_iff] at h
  rw [List.contains_eq_any_beq]
  exact h.1
theorem noHold_builtin (id : String) (a : Args) : noHold (.builtin id a) = !holders.contains id := rfl
theorem exported_clean {v : Value} {Q : Bool → Shared → Prop} (h : Q false s) : wpC (model prog w) A (Builtin.Bytes.exported v) Q E s := by
  intro Γ p hΓ hn hb
  have hst : CleanB ((Γ.code, p) :: Γ.below) := hb.cons hn
  unfold Builtin.Bytes.exported
  show Q (((Γ.code, p) :: Γ.below).any _) s
  rw [List.any_eq_false.mpr]
  · exact h
  · rintro ⟨c, q⟩ hx
    have hc : noHold c = true := hst _ hx
    cases c with
    | builtin id args =>
      rw [noHold_builtin] at hc
      delta Builtin.Bytes.exported.match_1
      show ¬ dite _ _ _ = true
      rw [dif_neg (fun e => absurd hc (by rw [e]; decide +kernel)), dif_neg (fun e => absurd hc (by rw [e]; decide +kernel)), dif_neg (fun e => absurd hc (by rw [e]; decide +kernel)),
        dif_neg (fun e => absurd hc (by rw [e]; decide +kernel)), dif_neg (fun e => absurd hc (by rw [e]; decide +kernel))]
      obtain ⟨pos, kw⟩ := args
      cases pos with
      | nil => exact Bool.false_ne_true
      | cons v tail =>
        show ¬ (Builtin.Bytes.sameRef v _ && _) = true
        rw [not_dec hc, Bool.and_false]
        exact Bool.false_ne_true
    | _ => exact Bool.false_ne_true
end
end Mine
-- ByteArr3
namespace Mine
namespace BA
theorem look_release : typeLookup (.type "bytearray") "__release_buffer__" = pure (some (.builtin "bytearray.__release_buffer__")) := by rw [typeLookup_type, builtinLookup_eq_fast]; kernel_rfl
end BA
section
variable {prog : Program} {w : World} {A : Around} {E : Value → Shared → Prop} {s : Shared}
noncomputable abbrev baObj (b : Array UInt8) : Obj := { cls := .type "bytearray", data := .bytearray b }
theorem ba_type {S : Addr} {b : Array UInt8} (h : s.heap.get? S = some (baObj b)) : s.TypeIs (.ref S) "bytearray" := ⟨_, h, rfl⟩
theorem ba_release {S : Addr} {b : Array UInt8} {Q : Bool → Shared → Prop} (hS : s.heap.get? S = some (baObj b)) (h : Q false s) : wpAny (model prog w) A (Builtin.Bytes.ownRelease (.ref S)) Q E s := by
  unfold Builtin.Bytes.ownRelease Builtin.Bytes.slotIsOwn
  refine wpAny_bind (wpAny_bind (wpAny_specialOf (ba_type hS) BA.look_release ?_))
  have key : ∀ x : String, x = "bytearray" → ∀ Q' : Bool → Shared → Prop, Q' true s → wpAny (model prog w) A (isInstance (.ref S) (.type x)) Q' E s := fun x hx Q' hq => by rw [hx]; exact wpAny_isInstance (ba_type hS) BA.sub_self hq
  dsimp only
  split
  · rename_i hx
    exact absurd hx (by decide +kernel)
  · exact key _ (by decide +kernel) _ (wpAny_pure h)
theorem ba_write {S : Addr} {b : Array UInt8} {f : Array UInt8 → Array UInt8} {Q : Unit → Shared → Prop} (hS : s.heap.get? S = some (baObj b)) (hz : (f b).size ≤ 16777216)
    (h : ∀ h', Heap.SameBut S s.heap h' → h'.get? S = some (baObj (f b)) → Q () { s with heap := h' }) : wpAny (model prog w) A (Builtin.Bytes.write (.ref S) f) Q E s := by
  show wpAny _ _ (updateBytearray S f) _ _ _
  unfold updateBytearray
  refine wpAny_bind (wpAny_load hS ?_)
  show wpAny _ _ (update S (Obj.mapBytearray f) >>= fun _ => lookBehind S) _ _ _
  refine wpAny_bind (wpAny_update hS ?_)
  have hS₂ : (s.heap.update S (Obj.mapBytearray f)).get? S = some (baObj (f b)) := Heap.get?_update_self (Obj.mapBytearray f) hS rfl
  refine wpAny_lookBehind hS₂ ?_ (h _ (Heap.SameBut.update ..) hS₂)
  show (if (f b).size > sizeLine then some "bytearray:memory" else none) = none
  rw [if_neg (by rw [sizeLine_eq]; omega)]

theorem ba_init {S : Addr} {n : Int} {tk : Tok} {Q : Fin → Shared → Prop} (hS : s.heap.get? S = some (baObj #[])) (h0 : 0 < n) (hn : n ≤ 16777216)
    (h : ∀ h', Heap.SameBut S s.heap h' → h'.get? S = some (baObj (Array.replicate n.toNat 0)) → Q (.done (.ret .none)) { s with heap := h' }) :
    wpC (model prog w) A (Builtin.«bytearray.__init__» ⟨[.ref S, .int n tk], []⟩) Q E s := by
  unfold Builtin.«bytearray.__init__»
  refine wpC_bindA (ba_release hS ?_)
  refine wpC_bindA (wpAny_of_eq (BA.bind _) ?_)
  refine wpC_bindA (wpAny_of_eq (a := ()) rfl ?_)
  refine wpC_bindA (wpAny_of_eq (a := ()) rfl ?_)
  refine wpC_bind ?_
  unfold orM
  refine wpC_bind (exported_clean ?_)
  refine wpC_of ?_
  show wpAny _ _ (Builtin.Bytes.exportsOf (.ref S) >>= _) _ _ _
  refine wpAny_bind ?_
  show wpAny _ _ (load S >>= _) _ _ _
  refine wpAny_bind (wpAny_load hS (wpAny_pure (wpAny_pure ?_)))
  refine wpC_of ?_
  refine bm_if_false (by rfl) ?_
  refine wpAny_bind (ba_write hS (by simp) fun h₁ hs₁ hS₁ => ?_)
  refine wpAny_bind (wpAny_of_eq (a := none) rfl ?_)
  refine bm_if_false rfl ?_
  refine wpAny_bind (wpAny_of_eq (a := ()) rfl ?_)
  refine wpAny_bind (wpAny_specialOf (T := "int") (typeIs_int _ _ _) F.slot_int_index.lookup ?_)
  refine bm_if_true rfl ?_
  refine wpAny_bind (wpAny_attempt (wpAny_of_eq (rfl : asIndex (.int n tk) = pure n) ?_))
  refine bm_if_false ?_ ?_
  · simp [Builtin.Bytes.fitsIndex]
    omega
  refine wpAny_ite ?_
  rw [if_neg (by omega)]
  refine bm_if_false (by simp; omega) ?_
  refine bm_if_false (KBy.tooLong_not (by omega)) ?_
  refine wpAny_bind (wpAny_rule ?_)
  refine wpAny_ite ?_
  rw [if_pos (by omega)]
  refine wpAny_bind (ba_write hS₁ (by simp; omega) fun h₂ hs₂ hS₂ => wpAny_pure ?_)
  exact h h₂ (hs₁.trans hs₂) hS₂
end
end Mine
-- ByteArr4
namespace Mine
section
variable {prog : Program} {w : World} {A : Around} {E : Value → Shared → Prop} {s : Shared}
theorem codeC_builtin {id : String} {args : Args} {b : Builtin} {R : Result → Shared → Prop} (hn : noHold (.builtin id args) = true) (hb : entryFor table id = some b)
    (h : wpC (model prog w) (A.under (.builtin id args)) (b args)
      (fun fin s' => match fin with | .done f => R (.ok f) s' | .again c' => c'.quiet = true ∧ codeC (model prog w) A c' R s') (fun e s' => R (.error e) s') s) :
    codeC (model prog w) A (.builtin id args) R s := by
  refine codeC_of_tree hn ?_
  show wpC _ _ (match entryFor table id with | some b => b args | none => unsupported ((withoutEnding? id "#data").getD id)) _ _ s
  rw [hb]; exact h
theorem wpC_if_false {α : Type} {M : Model} {c : Bool} {a b : Sem α} {Q : α → Shared → Prop} (hc : c = false) (h : wpC M A b Q E s) : wpC M A (if c = true then a else b) Q E s := by subst hc; exact h

theorem bytearray_call {n : Int} {tk : Tok} {Q : Value → Shared → Prop} (h0 : 0 < n) (hn : n ≤ 16777216)
    (h : ∀ h', (∀ b o, s.heap.get? b = some o → h'.get? b = some o) → h'.get? s.heap.objs.size = some (baObj (Array.replicate n.toNat 0)) → Q (.ref s.heap.objs.size) { s with heap := h' }) :
    wpC (model prog w) A (call (.type "bytearray") [.int n tk]) Q E s := by
  have ft := BA.called
  refine wpC_call (codeC_of_tree rfl ?_)
  show wpC _ _ (callAny (.type "bytearray") _) _ _ _
  refine wpC_pure ⟨Code.quiet_builtin _ (by decide +kernel), codeC_builtin ((noHold_builtin _ _).trans (by decide +kernel)) F.entry_type_call ?_⟩
  rw [Around.under_plain (weight_type_call_type "bytearray" [.int n tk] []) rfl]
  unfold Builtin.«type.__call__»
  refine wpC_if_false rfl ?_
  refine wpC_if_false ft.canCreate ?_
  refine wpC_bindA (wpAny_of_eq (BA.typeCall _) ?_)
  refine wpC_bindA (wpAny_of_eq BA.mro ?_)
  refine wpC_if_false rfl ?_
  refine wpC_bindA (wpAny_of_eq ft.made ?_)
  refine wpC_bindA (wpAny_of_eq (a := .builtin "bytearray.__new__") rfl ?_)
  refine wpC_bindA (wpAny_holding (wpAny_call (BA.code_new _ ?_)))
  have hS : (s.heap.push { cls := .type "bytearray", data := .bytearray #[] }).get? s.heap.objs.size = some (baObj #[]) := Heap.get?_push_size _ rfl
  refine wpC_bindA (wpAny_isInstance (ba_type hS) BA.sub_self ?_)
  refine wpC_if_false rfl ?_
  refine wpC_bind (wpC_holding ?_)
  simp only [callSpecial?]
  refine wpC_bindA (wpAny_specialOf (ba_type hS) ft.init.lookup ?_)
  simp only [ft.init.bind]
  refine wpC_holding (wpC_bind (wpC_pure (wpC_bind (wpC_call ?_))))
  refine codeC_of_tree rfl ?_
  show wpC _ _ (do checkBuiltinCall "bytearray.__init__" _; again (.builtin "bytearray.__init__" _)) _ _ _
  refine wpC_bindA (ft.init.check _ _ _ _ _ _ _ _ (ba_type hS) (BA.args_init _ _) ?_)
  refine wpC_pure ⟨plainId_quiet BA.plain_init _, codeC_builtin ((noHold_builtin _ _).trans (by decide +kernel)) BA.entry_init ?_⟩
  refine ba_init hS h0 hn fun h' hs' hS' => ?_
  refine wpC_pure (wpC_if_false rfl (wpC_pure ?_))
  exact h h' (fun b o e => hs'.extBut b o (Nat.ne_of_lt (Heap.lt_size e)) (Heap.get?_push_of_some _ e)) hS'
end
end Mine
-- ByteArr5
namespace Mine
namespace BA
theorem slot_setitem : Slot "bytearray" "__setitem__" "bytearray.__setitem__" :=
  .of (owner := "bytearray") (n := "__setitem__") (by rw [typeLookup_type, builtinLookup_eq_fast]; kernel_rfl) (by decide +kernel) (by decide +kernel) (by decide +kernel)
    (by first | exact .inl (by decide +kernel) | exact .inr (by decide +kernel)) (by rw [isSubtype_type]; kernel_rfl)
theorem entry_setitem : entryFor table "bytearray.__setitem__" = some Builtin.«bytearray.__setitem__» := by first | exact entryFor_of_fast (by kernel_rfl) | exact entryFor_of_tree (by kernel_rfl)
theorem args_setitem (a b c : Value) : argsOk "bytearray.__setitem__" ⟨[a, b, c], []⟩ := by unfold argsOk; kernel_rfl
theorem look_buffer : typeLookup (.type "bytearray") "__buffer__" = pure (some (.builtin "bytearray.__buffer__")) := by rw [typeLookup_type, builtinLookup_eq_fast]; kernel_rfl
theorem no_bytes : typeLookup (.type "bytearray") "__bytes__" = pure none := by rw [typeLookup_type, builtinLookup_eq_fast]; kernel_rfl
theorem noIndex : typeLookup (.type "bytearray") "__index__" = pure none := by rw [typeLookup_type, builtinLookup_eq_fast]; kernel_rfl
end BA
section
variable {prog : Program} {w : World} {A : Around} {E : Value → Shared → Prop} {s : Shared}
theorem ba_payload {S : Addr} {b : Array UInt8} {Q : Array UInt8 → Shared → Prop} (hS : s.heap.get? S = some (baObj b)) (h : Q b s) : wpAny (model prog w) A (Builtin.Bytes.payload (.ref S)) Q E s := by
  unfold Builtin.Bytes.payload Builtin.Bytes.payload?
  exact wpAny_bind (wpAny_bind (wpAny_load hS (wpAny_pure (wpAny_pure h))))
theorem ba_setItem {S : Addr} {b : Array UInt8} {k x : Int} {tk u : Tok} {Q : Unit → Shared → Prop} (hS : s.heap.get? S = some (baObj b)) (h0 : 0 ≤ k) (hk : k < b.size) (hb : b.size ≤ 16777216) (hx0 : 0 ≤ x) (hx : x < 256)
    (hQ : ∀ h', Heap.SameBut S s.heap h' → h'.get? S = some (baObj (b.setIfInBounds k.toNat x.toNat.toUInt8)) → Q () { s with heap := h' }) :
    wpAny (model prog w) A (setItem (.ref S) (.int k tk) (.int x u)) Q E s := by
  unfold setItem
  try with_reducible refine wpAny_holding ?_
  refine wpAny_bind (wpAny_sequenceKey (ba_type hS) (by decide) ?_)
  refine wpAny_bind (wpAny_callSpecial?_slot (name := Str.ofString "__setitem__") (ba_type hS) BA.slot_setitem
    (wpAny_call_entry BA.slot_setitem (ba_type hS) BA.entry_setitem ?_ (BA.args_setitem _ _ _)))
  unfold Builtin.«bytearray.__setitem__»
  refine bm_if_false rfl ?_
  show wpAny _ _ (Builtin.Bytes.subscript? (.int k tk) >>= _) _ _ _
  refine wpAny_bind ?_
  unfold Builtin.Bytes.subscript?
  refine wpAny_bind (wpAny_specialOf (T := "int") (typeIs_int _ _ _) F.slot_int_index.lookup ?_)
  refine bm_if_false rfl ?_
  refine wpAny_bind (wpAny_of_eq (rfl : asIndex (.int k tk) = pure k) ?_)
  refine bm_if_false (by simp [Builtin.Bytes.fitsIndex]; omega) ?_
  refine wpAny_pure ?_
  show wpAny _ _ (Builtin.Bytes.byteValue (.int x u) >>= _) _ _ _
  refine wpAny_bind ?_
  unfold Builtin.Bytes.byteValue
  refine wpAny_bind (wpAny_of_eq (rfl : asIndex (.int x u) = pure x) ?_)
  refine bm_if_false (by simp; omega) ?_
  refine wpAny_pure ?_
  refine wpAny_bind (ba_payload hS ?_)
  have e : seqIndex? k b.size = some k.toNat := by
    have h2 : ¬ k < 0 := by omega
    simp [seqIndex?, h2, hk]
  rw [e]
  refine wpAny_bind (ba_write hS (by rw [Array.size_setIfInBounds]; exact hb) fun h' hs' hS' => wpAny_pure ⟨.none, rfl, wpAny_pure (hQ h' hs' hS')⟩)

theorem ba_buffer {S : Addr} {b : Array UInt8} {id : String} {fl : Bool} {Q : Option (Array UInt8) → Shared → Prop} (hS : s.heap.get? S = some (baObj b)) (h : Q (some b) s) : wpAny (model prog w) A (Builtin.Bytes.buffer? id (.ref S) fl) Q E s := by
  unfold Builtin.Bytes.buffer?
  refine wpAny_bind (wpAny_specialOf (ba_type hS) BA.look_buffer ?_)
  refine wpAny_bind ?_
  unfold Builtin.Bytes.slotIsOwn
  refine wpAny_bind (wpAny_specialOf (ba_type hS) BA.look_buffer ?_)
  have key : ∀ x : String, x = "bytearray" → ∀ Q' : Bool → Shared → Prop, Q' true s → wpAny (model prog w) A (isInstance (.ref S) (.type x)) Q' E s := fun x hx Q' hq => by rw [hx]; exact wpAny_isInstance (ba_type hS) BA.sub_self hq
  dsimp only
  split
  · rename_i hx
    exact absurd hx (by decide +kernel)
  · refine key _ (by decide +kernel) _ ?_
    refine bm_if_false rfl ?_
    refine wpAny_bind (wpAny_specialOf (ba_type hS) BA.look_buffer ?_)
    show wpAny _ _ (Builtin.Bytes.ownRelease (.ref S) >>= _) _ _ _
    refine wpAny_bind (ba_release hS ?_)
    refine bm_if_false rfl ?_
    exact wpAny_bind (ba_payload hS (wpAny_pure h))

theorem ba_bytes {S : Addr} {b : Array UInt8} {Q : Value → Shared → Prop} (hS : s.heap.get? S = some (baObj b)) (hb : b.size ≤ 16777216) (h : ∀ t k, Q (.bytes b t) { s with toks := k }) :
    wpAny (model prog w) A (call (.type "bytes") [.ref S]) Q E s := by
  refine callType_codes (Q₁ := fun obj s₁ => s₁.TypeIs obj "bytes" ∧ Q obj s₁) F.bm_called (F.bm_typeCall _) F.entry_object_init ?_ fun obj s₁ h₁ => ?_
  · refine codeAny_of_tree ?_
    show wpAny _ A.in1.in1 (do checkBuiltinCall "bytes.__new__" ⟨[.type "bytes", .ref S], []⟩; again (.builtin "bytes.__new__" ⟨[.type "bytes", .ref S], []⟩)) _ _ s
    refine wpAny_bind (wpAny_of_eq (F.bm_newCall _) (wpAny_pure ⟨plainId_quiet F.bm_plain _, codeAny_builtin F.bm_entry ?_⟩))
    rw [Around.under_plainId F.bm_plain _]
    unfold Builtin.«bytes.__new__»
    refine wpAny_bind (wpAny_of_eq (a := true) rfl ?_)
    refine bm_if_false rfl ?_
    refine wpAny_bind (wpAny_of_eq F.bm_sub ?_)
    refine bm_if_false rfl ?_
    refine wpAny_bind (wpAny_of_eq (F.bm_bind _) ?_)
    refine wpAny_bind (wpAny_of_eq (a := ()) rfl ?_)
    refine wpAny_bind (wpAny_of_eq (a := ()) rfl ?_)
    refine bm_if_false rfl ?_
    refine wpAny_bind (wpAny_specialOf (ba_type hS) BA.no_bytes ?_)
    refine wpAny_bind (wpAny_bind ?_)
    show wpAny _ _ (load S >>= _) _ _ _
    refine wpAny_bind (wpAny_load hS ?_)
    refine wpAny_pure (wpAny_pure ?_)
    refine bm_if_false rfl ?_
    refine wpAny_bind (wpAny_specialOf (ba_type hS) BA.noIndex ?_)
    refine bm_if_true rfl ?_
    first
      | show wpAny _ _ (Builtin.Bytes.buffer? "bytes.__new__" (.ref S) true >>= _) _ _ _
      | (refine wpAny_bind ?_; show wpAny _ _ (Builtin.Bytes.buffer? "bytes.__new__" (.ref S) true >>= _) _ _ _)
    refine wpAny_bind (ba_buffer hS ?_)
    refine wpAny_bind (wpAny_rule ?_)
    refine wpAny_bind (wpAny_mkBytes ?_ (by rw [sizeLine_eq]; exact hb))
    show wpAny _ _ (if (Value.type "bytes" == Value.type "bytes") = true then _ else _) _ _ _
    refine bm_if_true (by decide) ?_
    first
      | exact wpAny_pure ⟨PySem.W.typeIs_bytes _ _ _, h _ _⟩
      | exact wpAny_bind (wpAny_pure (wpAny_pure ⟨PySem.W.typeIs_bytes _ _ _, h _ _⟩))
  · exact ⟨h₁.1, F.args_object_init_2 obj _, object_init_meets F.bm_called.init.lookup F.bm_called.made (by decide) prog w A.in1 _ s₁ ⟨h₁.1, rfl, h₁.2⟩⟩
end
end Mine
-- BaNews
namespace Mine
section
variable {prog : Program} {w : World} {A : Around} {E : Value → Shared → Prop} {s : Shared} {h₀ : Heap} {L S : Addr} {m : PySem.Str → Option Value} {news news' : Led}
theorem upd_heap {o o' : Obj} {h h' : Heap} (F : Fr h₀ L h m) (N : News h₀ L h news) (U : Upd S o o' news news') (hs : Heap.SameBut S h h') (hn : h'.get? S = some o') : Fr h₀ L h' m ∧ News h₀ L h' news' := by
  obtain ⟨pre, post, rfl, rfl, h1, h2⟩ := U.split
  have D := N (S, o) (by simp)
  refine ⟨⟨F.ns.sameBut hs (Ne.symm D.2.1), fun b ob e => (hs.2 b (fun q => ?_)).trans (F.keep b ob e), F.above⟩, fun p hp => ?_⟩
  · have := D.2.2; rw [← q, e] at this; cases this
  · rcases List.mem_append.mp hp with q | q
    · have P := N p (List.mem_append_left _ q); exact ⟨(hs.2 p.1 (h1 p q)).trans P.1, P.2⟩
    · rcases List.mem_cons.mp q with rfl | q
      · exact ⟨hn, D.2⟩
      · have P := N p (List.mem_append_right _ (.tail _ q)); exact ⟨(hs.2 p.1 (h2 p q)).trans P.1, P.2⟩
theorem upd_mem {o o' : Obj} (U : Upd S o o' news news') : (S, o) ∈ news := by
  obtain ⟨pre, post, rfl, rfl, h1, h2⟩ := U.split
  simp
theorem ba_setItem_N {b : Array UInt8} {k x : Int} {tk u : Tok} {Q : Unit → Shared → Prop} (F : Fr h₀ L s.heap m) (N : News h₀ L s.heap news) (U : Upd S (baObj b) (baObj (b.setIfInBounds k.toNat x.toNat.toUInt8)) news news')
    (h0 : 0 ≤ k) (hk : k < b.size) (hb : b.size ≤ 16777216) (hx0 : 0 ≤ x) (hx : x < 256) (h : ∀ h', Fr h₀ L h' m → News h₀ L h' news' → Q () { s with heap := h' }) :
    wpAny (model prog w) A (setItem (.ref S) (.int k tk) (.int x u)) Q E s :=
  ba_setItem (N _ (upd_mem U)).1 h0 hk hb hx0 hx fun h' hs hS => have z := upd_heap F N U hs hS; h h' z.1 z.2
theorem ba_bytes_N {b : Array UInt8} {Q : Value → Shared → Prop} (N : News h₀ L s.heap news) (hm : (S, baObj b) ∈ news) (hb : b.size ≤ 16777216) (h : ∀ t k, Q (.bytes b t) { s with toks := k }) :
    wpAny (model prog w) A (call (.type "bytes") [.ref S]) Q E s := ba_bytes (N _ hm).1 hb h
theorem bytearray_call_N {n : Int} {tk : Tok} {Q : Value → Shared → Prop} (F : Fr h₀ L s.heap m) (N : News h₀ L s.heap news) (h0 : 0 < n) (hn : n ≤ 16777216)
    (h : ∀ S h', Fr h₀ L h' m → News h₀ L h' ((S, baObj (Array.replicate n.toNat 0)) :: news) → (∀ p ∈ news, p.1 < S) → Q (.ref S) { s with heap := h' }) : wpC (model prog w) A (call (.type "bytearray") [.int n tk]) Q E s :=
  bytearray_call h0 hn fun h' hk hS => h _ h' (F.keeps hk) (fun p hp => by
    rcases List.mem_cons.mp hp with rfl | hp
    · refine ⟨hS, Nat.ne_of_gt F.ns.lt, ?_⟩
      cases q : h₀.get? s.heap.objs.size with
      | none => rfl
      | some o => exact absurd (Heap.lt_size (F.keep _ _ q)) (Nat.lt_irrefl _)
    · exact ⟨hk _ _ (N p hp).1, (N p hp).2⟩) fun p hp => Heap.lt_size (N p hp).1
end
end Mine
-- Use
namespace Mine
theorem ctc_use0 {w : World} {D : Nat} {f : Addr} {vs : List Value} {Post : Value → Led → Prop} (C : CtC w D f [] vs Post) {p : Program} {loose : List PySem.Str} {mean : ExcName → Option Value} {mg mb : PySem.Str → Option Value} {dp un : Nat} {gd : Option (List Code)} {cn : PySem.Str} {cs : Scope} {a : Addr} {ccd : Value} {cl : List (PySem.Str × Addr)} {outer : List Env}
    {A₀ : Around} {base h₀ : Heap} {L : Addr} {m : PySem.Str → Option Value} {news : Led} {s : Shared} {Q E : Value → Shared → Prop}
    (B : Below A₀ base outer h₀) (F : Fr h₀ L s.heap m) (X : (htop.heap_1 w.params).In h₀) (N : News h₀ L s.heap news) (T : Top p loose mean mg mb h₀) (hk : cs.kind = .function) (hd : dp + D < recursionLimit) (hu : un + 40 * D < cLine)
    (h : ∀ r h' tk' foot', Fr h₀ L h' m → News h₀ L h' (foot' ++ news) → Apart foot' news → Post r foot' → Q r { s with heap := h', toks := tk' }) :
    wpC (model PR w) (ktrTop dp un gd cn cs L a ccd cl outer) (call (.ref f) vs) Q E s :=
  C p loose mean mg mb dp un gd cn cs a ccd cl outer A₀ base h₀ L m news s Q E B F X N (fun _ z => nomatch z) T hk hd hu h
theorem ct_use0 {w : World} {D : Nat} {f : Addr} {vs : List Value} {Post : Value → Led → Prop} {Bad : Prop} (C : Ct w D f [] vs Post Bad) {p : Program} {loose : List PySem.Str} {mean : ExcName → Option Value} {mg mb : PySem.Str → Option Value} {dp un : Nat} {gd : Option (List Code)} {cn : PySem.Str} {cs : Scope} {a : Addr} {ccd : Value} {cl : List (PySem.Str × Addr)} {outer : List Env}
    {A₀ : Around} {base h₀ : Heap} {L : Addr} {m : PySem.Str → Option Value} {news : Led} {s : Shared} {Q E : Value → Shared → Prop}
    (B : Below A₀ base outer h₀) (F : Fr h₀ L s.heap m) (X : (htop.heap_1 w.params).In h₀) (N : News h₀ L s.heap news) (T : Top p loose mean mg mb h₀) (hk : cs.kind = .function) (hd : dp + D < recursionLimit) (hu : un + 40 * D < cLine)
    (h : ∀ r h' tk' foot', Fr h₀ L h' m → News h₀ L h' (foot' ++ news) → Apart foot' news → Post r foot' → Q r { s with heap := h', toks := tk' })
    (hE : Bad → ∀ e h' tk', Flew (framesOf (envX cn cs L a ccd cl :: outer)) s.heap h' e → E (.ref e) { s with heap := h', toks := tk' }) :
    wpAny (model PR w) (ktrTop dp un gd cn cs L a ccd cl outer) (call (.ref f) vs) Q E s :=
  C p loose mean mg mb dp un gd cn cs a ccd cl outer A₀ base h₀ L m news s Q E B F X N (fun _ z => nomatch z) T hk hd hu h hE
end Mine
-- Cells
namespace Mine
section
variable {prog : Program} {w : World} {A : Around} {s : Shared} {R : Result → Shared → Prop}
theorem codeC_call_function {a : Addr} {args : Args} {o : Obj} {fd : FuncData} {body : List Stmt} {binds : List (PySem.Str × Value)} (hroom : A.depth < recursionLimit) (ho : s.heap.get? a = some o)
    (hd' : o.data = .func fd) (hco : fd.scope.isCoroutine = false) (hgen : fd.scope.isGenerator = false) (hbody : fd.body = .stmts body) (hcd : s.heap.CodeRec fd.code fd.qualname) (hbind : bindArgs fd args = pure binds)
    (h : wpAny (model prog w) A.in1 (newFunctionEnv fd.scope fd.globals fd.closure binds (fd.qualname ++ ".<locals>.") (some a) fd.code none fd.builtins)
        (fun env s₂ => s₂.heap.NoLimit ∧ codeC (model prog w) A (.func body env) R s₂) (fun e s' => R (.error e) s') s) : codeC (model prog w) A (.call (.ref a) args) R s := by
  refine codeC_of_tree rfl ?_
  show wpC _ A.in1 (callAny (.ref a) args) _ _ s
  simp only [callAny]
  refine wpC_bindA (wpAny_load ho ?_)
  obtain ⟨c, oc, vs, tq, hc, hoc, hdc, hq⟩ := hcd
  simp only [hd', callFunction, hco, hgen, hbody, hc]
  rw [hc] at h
  refine wpC_bindA (m := field (.ref c) 1) (wpAny_field hoc hdc hq (wpC_bind (wpC_pure ?_)))
  refine wpC_bindA (wpAny_of_eq hbind ?_)
  exact wpC_bindA (wpAny_mono h (fun env s₂ h₂ => wpC_bindA (wpAny_enterFrame h₂.1 hroom (wpC_pure ⟨rfl, h₂.2⟩))) fun _ _ h' => h')
end

section
variable {w : World} {A₀ : Around} {base h₀ : Heap} {outer : List Env} {L f : Addr} {m : PySem.Str → Option Value} {s : Shared} {foot rest : Led} {D : Nat} {vs : List Value}
  {name qual : PySem.Str} {params : Arguments} {body : List Stmt} {scope : Scope} {dV kV doc pm cdv ct oc : Value} {an od : Option Addr} {osl : Array (Option Value)} {binds : List (PySem.Str × Value)}

/-- what the body of a def with cells finds at its start -/
structure CellStart (g : Heap) (L' : Addr) (h₁ : Heap) (qual : PySem.Str) (scope : Scope) (f : Addr) (cdv : Value) (binds : List (PySem.Str × Value)) (foot : Led) (cells : Led) : Prop where
  fr : Fr g L' h₁ (bindL (envOfC qual scope L' f cdv).kindOf binds fun _ => none)
  news : News g L' h₁ (cells ++ foot)
  are : CellsAre (bindC (envOfC qual scope L' f cdv).kindOf binds fun _ => none) (cellsFrom (L' + 1) scope.names []) cells
  low : ∀ p ∈ foot, p.1 < L'

theorem cell_start (N : News h₀ L s.heap (foot ++ rest)) (hnd : ((cellsFrom 0 scope.names []).map (·.1)).Nodup)
    {env' : Env} (he : env' = envOfC qual scope s.heap.objs.size f cdv) {s' : Shared} (x : InCallC s env'.locals (bindL env'.kindOf binds fun _ => none) env'.cells (bindC env'.kindOf binds fun _ => none) s') :
    ∃ h₁ tk cells, s' = { s with heap := h₁, toks := tk } ∧ (∀ b o, s.heap.get? b = some o → h₁.get? b = some o) ∧ CellStart (groundOf s.heap foot) s.heap.objs.size h₁ qual scope f cdv binds foot cells := by
  subst he
  obtain ⟨h₁, tk, rfl, _⟩ := x.done
  have hk₁ := x.toInCall.keep
  obtain ⟨cells, NC, Y⟩ := Cl.news (h₀ := s.heap) (Nat.le_refl _) fun n c hm => ⟨x.cell n c (lookup_of_mem_nodup (cellsFrom_names scope.names 0 (s.heap.objs.size + 1) [] [] rfl ▸ hnd) hm), x.above n c hm⟩
  refine ⟨h₁, tk, cells, rfl, hk₁, ⟨x.toInCall.ns, fun b o e => hk₁ b o (of_hideAll _ e), Nat.le_of_eq (hideAll_size _ _)⟩, fun p hp => ?_, Y, fun p hp => Heap.lt_size (N p (List.mem_append_left _ hp)).1⟩
  rcases List.mem_append.mp hp with hp | hp
  · refine ⟨(NC p hp).1, (NC p hp).2.1, ?_⟩
    cases q : (groundOf s.heap foot).get? p.1 with
    | none => rfl
    | some o => have := of_hideAll _ q; rw [(NC p hp).2.2] at this; cases this
  · have e := (N p (List.mem_append_left _ hp)).1
    exact ⟨hk₁ _ _ e, Nat.ne_of_lt (Heap.lt_size e), hideAll_none _ (List.mem_map_of_mem hp)⟩

theorem ct_defC {Post : Value → Led → Prop} {Bad : Prop}
    (ho : (htop.heap_1 w.params).lookup f = some ⟨oc, od, .func (fnOf name qual params body scope dV kV doc pm an cdv ct), osl⟩)
    (hcd : codeIn (htop.heap_1 w.params) cdv qual = true)
    (hbind : bindArgs (fnOf name qual params body scope dV kV doc pm an cdv ct) ⟨vs, []⟩ = pure binds)
    (hkind : (binds.all fun y => scope.names.lookup y.1 == some .local || scope.names.lookup y.1 == some .cell) = true)
    (hnd : ((cellsFrom 0 scope.names []).map (·.1)).Nodup)
    (hb : ∀ (p : Program) (loose : List PySem.Str) (mean : ExcName → Option Value) (mg mb : PySem.Str → Option Value) (dp un : Nat) (gd : Option (List Code)) (cn : PySem.Str) (cs : Scope) (L a : Addr) (ccd : Value) (cl : List (PySem.Str × Addr)) (outer : List Env) (base g : Heap) (L' : Addr) (s₁ : Shared) (E : Value → Shared → Prop) (cells : Led),
      cs.kind = .function → CellStart g L' s₁.heap qual scope f cdv binds foot cells → Below (ktrTop dp un gd cn cs L a ccd cl outer) base (envX cn cs L a ccd cl :: outer) g → (htop.heap_1 w.params).In g → Top p loose mean mg mb g → dp + (D + 1) < recursionLimit → un + 40 * (D + 1) < cLine →
      (Bad → ∀ e h' tk', Flew (framesOf (envX cn cs L a ccd cl :: outer)) g h' e → E (.ref e) { s₁ with heap := h', toks := tk' }) →
      wpAny (model PR w) ((ktrTop dp un gd cn cs L a ccd cl outer).deeper (envOfC qual scope L' f cdv)) (execs body (envOfC qual scope L' f cdv)) (Back g L' s₁ Post)
        (fun e s' => wpAny (model PR w) ((ktrTop dp un gd cn cs L a ccd cl outer).deeper (envOfC qual scope L' f cdv)) (leaving (envOfC qual scope L' f cdv) e) (fun _ s'' => E e s'') (fun e' s'' => E e' s'') s') s₁)
    (hco : scope.isCoroutine = false := by rfl) (hgen : scope.isGenerator = false := by rfl) (hk : scope.kind = .function := by rfl) : Ct w (D + 1) f foot vs Post Bad := by
  intro p loose mean mg mb dp un gd cn cs a ccd cl outer A₀ base h₀ L m rest s Q E B F X N ap T hck hd hu hQ hE
  refine wpAny_call ?_
  have G := lend (A := ktrTop dp un gd cn cs L a ccd cl outer) B F N ap rfl rfl hck
  refine codeAny_call_function (show dp < recursionLimit by omega) ((X.keeps F.keep) _ _ ho) rfl hco hgen rfl (codeRec_of (X.keeps F.keep) hcd) (wpAny_of_eq hbind ?_)
  refine wpAny_newFunctionEnv_cells hk (kindsX hkind _) fun env' he s' x => ?_
  obtain ⟨h₁, tk, cells, rfl, hk₁, Z⟩ := cell_start (rest := rest) N hnd he x
  subst he
  refine ⟨(T.nolimit.keeps F.keep).keeps hk₁, codeAny_func ?_⟩
  refine wpAny_mono (hb p loose mean mg mb dp un gd cn cs L a ccd cl outer base (groundOf s.heap foot) s.heap.objs.size { s with heap := h₁, toks := tk } E cells hck Z G.below (X.keeps G.up) (T.keeps G.up) hd hu (fun hbad e h' tk' z => hE hbad e h' tk' z)) (fun fl s' hl => ?_) fun _ _ y => y
  obtain ⟨h', tk', m', foot', rfl, F₂, N₂, hP⟩ := hl
  obtain ⟨F₃, N₃, ap₃⟩ := G.back h' foot' F₂.keep (fun q hq => ⟨(N₂ q hq).1, (N₂ q hq).2.2⟩)
  exact hQ _ h' tk' foot' F₃ N₃ ap₃ hP

theorem ctc_defC {Post : Value → Led → Prop}
    (ho : (htop.heap_1 w.params).lookup f = some ⟨oc, od, .func (fnOf name qual params body scope dV kV doc pm an cdv ct), osl⟩)
    (hcd : codeIn (htop.heap_1 w.params) cdv qual = true)
    (hbind : bindArgs (fnOf name qual params body scope dV kV doc pm an cdv ct) ⟨vs, []⟩ = pure binds)
    (hkind : (binds.all fun y => scope.names.lookup y.1 == some .local || scope.names.lookup y.1 == some .cell) = true)
    (hnd : ((cellsFrom 0 scope.names []).map (·.1)).Nodup)
    (hb : ∀ (p : Program) (loose : List PySem.Str) (mean : ExcName → Option Value) (mg mb : PySem.Str → Option Value) (dp un : Nat) (gd : Option (List Code)) (cn : PySem.Str) (cs : Scope) (L a : Addr) (ccd : Value) (cl : List (PySem.Str × Addr)) (outer : List Env) (base g : Heap) (L' : Addr) (s₁ : Shared) (E : Value → Shared → Prop) (cells : Led),
      cs.kind = .function → CellStart g L' s₁.heap qual scope f cdv binds foot cells → Below (ktrTop dp un gd cn cs L a ccd cl outer) base (envX cn cs L a ccd cl :: outer) g → (htop.heap_1 w.params).In g → Top p loose mean mg mb g → dp + (D + 1) < recursionLimit → un + 40 * (D + 1) < cLine →
      wpC (model PR w) ((ktrTop dp un gd cn cs L a ccd cl outer).deeper (envOfC qual scope L' f cdv)) (execs body (envOfC qual scope L' f cdv)) (Back g L' s₁ Post)
        (fun e s' => wpAny (model PR w) ((ktrTop dp un gd cn cs L a ccd cl outer).deeper (envOfC qual scope L' f cdv)) (leaving (envOfC qual scope L' f cdv) e) (fun _ s'' => E e s'') (fun e' s'' => E e' s'') s') s₁)
    (hco : scope.isCoroutine = false := by rfl) (hgen : scope.isGenerator = false := by rfl) (hk : scope.kind = .function := by rfl) : CtC w (D + 1) f foot vs Post := by
  intro p loose mean mg mb dp un gd cn cs a ccd cl outer A₀ base h₀ L m rest s Q E B F X N ap T hck hd hu hQ
  refine wpC_call ?_
  have G := lend (A := ktrTop dp un gd cn cs L a ccd cl outer) B F N ap rfl rfl hck
  refine codeC_call_function (show dp < recursionLimit by omega) ((X.keeps F.keep) _ _ ho) rfl hco hgen rfl (codeRec_of (X.keeps F.keep) hcd) hbind ?_
  refine wpAny_newFunctionEnv_cells hk (kindsX hkind _) fun env' he s' x => ?_
  obtain ⟨h₁, tk, cells, rfl, hk₁, Z⟩ := cell_start (rest := rest) N hnd he x
  subst he
  refine ⟨(T.nolimit.keeps F.keep).keeps hk₁, codeC_func ?_⟩
  refine wpC_mono (hb p loose mean mg mb dp un gd cn cs L a ccd cl outer base (groundOf s.heap foot) s.heap.objs.size { s with heap := h₁, toks := tk } E cells hck Z G.below (X.keeps G.up) (T.keeps G.up) hd hu) (fun fl s' hl => ?_) fun _ _ y => y
  obtain ⟨h', tk', m', foot', rfl, F₂, N₂, hP⟩ := hl
  obtain ⟨F₃, N₃, ap₃⟩ := G.back h' foot' F₂.keep (fun q hq => ⟨(N₂ q hq).1, (N₂ q hq).2.2⟩)
  exact hQ _ h' tk' foot' F₃ N₃ ap₃ hP
end
end Mine
-- EQ
namespace Mine
/-! equality of lists and tuples of numbers and octets that say the same -/
open PySem.SeqAt in
theorem eqAt_bytes {A : Around} {s : Shared} (b : Array UInt8) (t u : Tok) : EqAt A s (.bytes b t) (.bytes b u) true := fun prog w E Q hq => by
  unfold eqBool
  refine wpAny_holding ?_
  refine wpAny_ite_split (fun _ => wpAny_bind (wpAny_rule (wpAny_pure hq))) (fun _ => ?_)
  refine wpAny_bind ?_
  have e : b = b.toList.toArray := by simp
  rw [e]
  refine eq_b (x := b.toList) (y := b.toList) ?_
  rw [beq_self_eq_true]
  exact wpAny_truthy_bool hq

noncomputable def datDeep : Nat → Dat → Bool
  | _, .int _ => true
  | _, .bytes _ => true
  | n + 1, .tuple ds => ds.all (datDeep n)
  | n + 1, .list ds => ds.all (datDeep n)
  | _, _ => false

theorem datAll_get {news : Led} : ∀ {vs : List Value} {ds : List Dat}, DatAll news vs ds → vs.length = ds.length ∧ ∀ j (h1 : j < vs.length) (h2 : j < ds.length), DatIn news vs[j] ds[j]
  | _, _, .nil => ⟨rfl, fun j h1 _ => absurd h1 (Nat.not_lt_zero j)⟩
  | _, _, .cons hd r => by
    obtain ⟨e, q⟩ := datAll_get r
    refine ⟨by simp [e], fun j h1 h2 => ?_⟩
    cases j with
    | zero => exact hd
    | succ j => exact q j (by simpa using h1) (by simpa using h2)

open PySem.SeqAt in
theorem eqAt_dat {h₀ : Heap} {L : Addr} {news : Led} : ∀ (n : Nat) (d : Dat) {A : Around} {s : Shared} {v1 v2 : Value}, News h₀ L s.heap news → datDeep n d = true → DatIn news v1 d → DatIn news v2 d → A.units + 8 * n < cLine → EqAt A s v1 v2 true := by
  intro n
  induction n with
  | zero =>
    intro d A s v1 v2 N hd h1 h2 hu
    cases h1 with
    | int i t => cases h2 with | int _ u => exact by have := EqAt.int_int (A := A) (s := s) i t i u; simpa using this
    | bytes b t => cases h2 with | bytes _ u => exact eqAt_bytes b t u
    | _ => simp [datDeep] at hd
  | succ n ih =>
    intro d A s v1 v2 N hd h1 h2 hu
    have items : ∀ {vs ws : List Value} {ds : List Dat}, DatAll news vs ds → DatAll news ws ds → (∀ d ∈ ds, datDeep n d = true) → ∀ j (h1 : j < vs.toArray.size) (h2 : j < ws.toArray.size), EqAt A.in1 s vs.toArray[j] ws.toArray[j] true := by
      intro vs ws ds a1 a2 hds j q1 q2
      obtain ⟨e1, g1⟩ := datAll_get a1
      obtain ⟨e2, g2⟩ := datAll_get a2
      have j1 : j < vs.length := by simpa using q1
      have j2 : j < ws.length := by simpa using q2
      have j3 : j < ds.length := by omega
      exact ih ds[j] N (hds _ (List.getElem_mem j3)) (by simpa using g1 j j1 j3) (by simpa using g2 j j2 j3) (by
        have : A.in1.units = A.units + 1 := rfl
        omega)
    cases h1 with
    | int i t => cases h2 with | int _ u => exact by have := EqAt.int_int (A := A) (s := s) i t i u; simpa using this
    | bytes b t => cases h2 with | bytes _ u => exact eqAt_bytes b t u
    | @tuple a vs k ds m r =>
      cases h2 with
      | @tuple b ws k2 _ m2 r2 =>
        by_cases q : a = b
        · subst q; exact EqAt.same _
        · have ht := RcAt.tuples (A := A) (s := s) (l := a) (b := b) (items := vs.toArray) (items2 := ws.toArray) (e := fun _ => true) ⟨_, N.get m, rfl, _, rfl⟩ ⟨_, N.get m2, rfl, _, rfl⟩ (by omega) (items r r2 (by simpa [datDeep] using hd))
          have es : vs.length = ws.length := (datAll_get r).1.trans (datAll_get r2).1.symm
          have : ((List.range (min vs.toArray.size ws.toArray.size)).all (fun _ => true) && vs.toArray.size == ws.toArray.size) = true := by simp [es]
          rw [this] at ht
          exact EqAt.of_refs q ht
    | @list a vs k ds m r =>
      cases h2 with
      | @list b ws k2 _ m2 r2 =>
        by_cases q : a = b
        · subst q; exact EqAt.same _
        · have es : vs.length = ws.length := (datAll_get r).1.trans (datAll_get r2).1.symm
          have ht := RcAt.lists (A := A) (s := s) (l := a) (b := b) (items := vs.toArray) (items2 := ws.toArray) (e := fun _ => true) ⟨_, N.get m, rfl, _, rfl⟩ ⟨_, N.get m2, rfl, _, rfl⟩ (by simpa using es) (by omega) (items r r2 (by simpa [datDeep] using hd))
          have : ((List.range vs.toArray.size).all (fun _ => true)) = true := by simp
          rw [this] at ht
          exact EqAt.of_refs q ht
    | _ => simp [datDeep] at hd
section
open PySem.SeqAt
variable {prog : Program} {w : World} {A : Around} {E : Value → Shared → Prop} {s : Shared} {h₀ : Heap} {L a b : Addr} {news : Led} {ds : List Dat} {Q : Value → Shared → Prop}
theorem dat_items {n : Nat} {vs ws : List Value} (N : News h₀ L s.heap news) (a1 : DatAll news vs ds) (a2 : DatAll news ws ds) (hds : ∀ d ∈ ds, datDeep n d = true) (hu : A.units + 8 * (n + 1) < cLine) :
    vs.length = ws.length ∧ ∀ j (h1 : j < vs.toArray.size) (h2 : j < ws.toArray.size), EqAt A.in1 s vs.toArray[j] ws.toArray[j] true := by
  obtain ⟨e1, g1⟩ := datAll_get a1
  obtain ⟨e2, g2⟩ := datAll_get a2
  refine ⟨e1.trans e2.symm, fun j q1 q2 => ?_⟩
  have j1 : j < vs.length := by simpa using q1
  have j2 : j < ws.length := by simpa using q2
  have j3 : j < ds.length := by omega
  exact eqAt_dat n ds[j] N (hds _ (List.getElem_mem j3)) (by simpa using g1 j j1 j3) (by simpa using g2 j j2 j3) (by
    have : A.in1.units = A.units + 1 := rfl
    omega)
theorem eq_tup (N : News h₀ L s.heap news) (h1 : DatIn news (.ref a) (.tuple ds)) (h2 : DatIn news (.ref b) (.tuple ds)) (hds : ∀ d ∈ ds, datDeep 3 d = true) (hu : A.units + 32 < cLine) (h : Q (.bool true) s) :
    wpAny (model prog w) A (compareOp .Eq (.ref a) (.ref b)) Q E s := by
  cases h1 with
  | @tuple _ vs k _ m r =>
  cases h2 with
  | @tuple _ ws k2 _ m2 r2 =>
  obtain ⟨es, it⟩ := dat_items (A := A) N r r2 hds (by omega)
  refine eq_tupleAt (items := vs.toArray) (items2 := ws.toArray) (e := fun _ => true) ⟨_, N.get m, rfl, _, rfl⟩ ⟨_, N.get m2, rfl, _, rfl⟩ (by omega) it ?_
  have : ((List.range (min vs.toArray.size ws.toArray.size)).all (fun _ => true) && vs.toArray.size == ws.toArray.size) = true := by simp [es]
  rw [this]; exact h
theorem ne_tup (N : News h₀ L s.heap news) (h1 : DatIn news (.ref a) (.tuple ds)) (h2 : DatIn news (.ref b) (.tuple ds)) (hds : ∀ d ∈ ds, datDeep 3 d = true) (hu : A.units + 32 < cLine) (h : Q (.bool false) s) :
    wpAny (model prog w) A (compareOp .NotEq (.ref a) (.ref b)) Q E s := by
  cases h1 with
  | @tuple _ vs k _ m r =>
  cases h2 with
  | @tuple _ ws k2 _ m2 r2 =>
  obtain ⟨es, it⟩ := dat_items (A := A) N r r2 hds (by omega)
  refine RcNeAt.tuples (A := A) (s := s) (l := a) (b := b) (items := vs.toArray) (items2 := ws.toArray) (e := fun _ => true) ⟨_, N.get m, rfl, _, rfl⟩ ⟨_, N.get m2, rfl, _, rfl⟩ (by omega) it prog w E Q ?_
  have : (!((List.range (min vs.toArray.size ws.toArray.size)).all (fun _ => true) && vs.toArray.size == ws.toArray.size)) = false := by simp [es]
  rw [this]; exact h
theorem eq_lst (N : News h₀ L s.heap news) (h1 : DatIn news (.ref a) (.list ds)) (h2 : DatIn news (.ref b) (.list ds)) (hds : ∀ d ∈ ds, datDeep 3 d = true) (hu : A.units + 32 < cLine) (h : Q (.bool true) s) :
    wpAny (model prog w) A (compareOp .Eq (.ref a) (.ref b)) Q E s := by
  cases h1 with
  | @list _ vs k _ m r =>
  cases h2 with
  | @list _ ws k2 _ m2 r2 =>
  obtain ⟨es, it⟩ := dat_items (A := A) N r r2 hds (by omega)
  refine eq_listAt (items := vs.toArray) (items2 := ws.toArray) (e := fun _ => true) ⟨_, N.get m, rfl, _, rfl⟩ ⟨_, N.get m2, rfl, _, rfl⟩ (by simpa using es) (by omega) it ?_
  have : ((List.range vs.toArray.size).all (fun _ => true)) = true := by simp
  rw [this]; exact h
theorem ne_lst (N : News h₀ L s.heap news) (h1 : DatIn news (.ref a) (.list ds)) (h2 : DatIn news (.ref b) (.list ds)) (hds : ∀ d ∈ ds, datDeep 3 d = true) (hu : A.units + 32 < cLine) (h : Q (.bool false) s) :
    wpAny (model prog w) A (compareOp .NotEq (.ref a) (.ref b)) Q E s := by
  cases h1 with
  | @list _ vs k _ m r =>
  cases h2 with
  | @list _ ws k2 _ m2 r2 =>
  obtain ⟨es, it⟩ := dat_items (A := A) N r r2 hds (by omega)
  refine RcNeAt.lists (A := A) (s := s) (l := a) (b := b) (items := vs.toArray) (items2 := ws.toArray) (e := fun _ => true) ⟨_, N.get m, rfl, _, rfl⟩ ⟨_, N.get m2, rfl, _, rfl⟩ (by simpa using es) (by omega) it prog w E Q ?_
  have : (!((List.range vs.toArray.size).all (fun _ => true))) = false := by simp
  rw [this]; exact h
end
theorem datIn_tup {news : Led} {v : Value} {ds : List Dat} (h : DatIn news v (.tuple ds)) : ∃ a, v = .ref a := by
  cases h with
  | @tuple a vs n _ m r => exact ⟨a, rfl⟩
theorem datIn_lst {news : Led} {v : Value} {ds : List Dat} (h : DatIn news v (.list ds)) : ∃ a, v = .ref a := by
  cases h with
  | @list a vs n _ m r => exact ⟨a, rfl⟩
theorem datIn_bytes {news : Led} {v : Value} {b : Array UInt8} (h : DatIn news v (.bytes b)) : ∃ t, v = .bytes b t := by
  cases h with
  | bytes _ t => exact ⟨t, rfl⟩
end Mine
-- LP
namespace Mine
/-! loops in clean contexts -/
section
variable {prog : Program} {w : World} {M : Model} {A : Around} {E : Value → Shared → Prop} {s : Shared} {R : Result → Shared → Prop}
noncomputable abbrev NoE : Value → Shared → Prop := fun _ _ => False
theorem wpC_onRaiseF {α : Type} {m : Sem α} {k : Value → Sem Unit} {Q : α → Shared → Prop} (h : wpC M A m Q NoE s) : wpC M A (m.onRaise k) Q E s :=
  wpC_onRaise (wpC_mono h (fun _ _ x => x) fun _ _ x => x.elim)
theorem wpC_noE {α : Type} {m : Sem α} {Q : α → Shared → Prop} (h : wpC M A m Q NoE s) : wpC M A m Q E s := wpC_mono h (fun _ _ x => x) fun _ _ x => x.elim
theorem wpC_abs {α : Type} {Q : α → Shared → Prop} {t : Sem α} (h : ∀ Q' : α → Shared → Prop, (∀ a s', Q a s' → Q' a s') → wpC M A t Q' NoE s) : wpC M A t Q E s := wpC_noE (h Q fun _ _ x => x)
theorem wpC_absE {α : Type} {Q : α → Shared → Prop} {t : Sem α} (h : ∀ Q' : α → Shared → Prop, (∀ a s', Q a s' → Q' a s') → wpC M A t Q' E s) : wpC M A t Q E s := h Q fun _ _ x => x
theorem wpC_execs_abs {st : Stmt} {rest : List Stmt} {env : Env} {Q : Flow → Shared → Prop} (h : ∀ R : Flow → Shared → Prop, (∀ f s', (match f with | .next => wpC M A (execs rest env) Q E s' | f => Q f s') → R f s') → wpC M A (exec st env) R E s) : wpC M A (execs (st :: rest) env) Q E s := wpC_execs_cons (h _ fun _ _ x => x)

theorem codeC_loop' {c : Code} (hn : noHold c = true) (hq : c.quiet = true) (I : Nat → Shared → Prop)
    (turn : ∀ n s, I n s → wpC M (A.under c) (M.den c) (fun fin s' => match fin with
        | .done f => R (.ok f) s'
        | .again c' => (c' = c ∧ ∃ m, m < n ∧ I m s') ∨ (c'.quiet = true ∧ codeC M A c' R s')) (fun e s' => R (.error e) s') s)
    (n : Nat) (h : I n s) : codeC M A c R s := by
  induction n using Nat.strongRecOn generalizing s with
  | ind n ih =>
    refine codeC_of_tree hn (wpC_mono (turn n s h) (fun fin s' hf => ?_) fun _ _ h' => h')
    cases fin with
    | done f => exact hf
    | again c' =>
      rcases hf with ⟨rfl, m, hm, hI⟩ | hf
      · exact ⟨hq, ih m hm hI⟩
      · exact hf

theorem codeC_compLoop_list {elt target iter : PySem.Expr} {scope : Scope} {pos : Pos} {it acc : Value} {env : Env} (I : Nat → Shared → Prop)
    (turn : ∀ n s, I n s → wpAny (model prog w) A (pyNext it) (fun r s₁ => match r with
      | none => R (.ok .next) s₁
      | some v => wpAny (model prog w) A (assign target env v) (fun _ s₂ => wpC (model prog w) A (eval elt env) (fun x s₃ =>
          wpAny (model prog w) A (call (.builtin "list.append") [acc, x]) (fun _ s₄ => ∃ m, m < n ∧ I m s₄) NoE s₃) NoE s₂) NoE s₁) NoE s)
    (n : Nat) (h : I n s) (ht : ∀ v, letOwnedTupleGo target it v = pure () := by intro _; rfl) :
    codeC (model prog w) A (.compLoop (.ListComp elt [⟨target, iter, [], 0⟩] scope pos) 0 it acc env) R s := by
  refine codeC_loop' rfl rfl I (fun n s hI => ?_) n h
  show wpC _ _ ((compTurn (.ListComp elt [⟨target, iter, [], 0⟩] scope pos) 0 it acc env).onRaise (fun x => do noteFrame x env; theTreesLotGoes x)) _ _ s
  refine wpC_onRaiseF ?_
  rw [compTurn_list1]
  refine wpC_bind (wpC_standAt (wpC_bind (wpC_of (wpAny_mono (turn n s hI) (fun r s₁ h₁ => ?_) fun _ _ h' => h'))))
  cases r with
  | none => exact wpC_pure h₁
  | some v =>
    refine wpC_bind (wpC_eq (ht v) ?_)
    exact wpC_bind (wpC_of (wpAny_mono h₁ (fun _ s₂ h₂ => wpC_bind (wpC_bind (wpC_mono h₂ (fun x s₃ h₃ => wpC_bind (wpC_of (wpAny_mono h₃
      (fun _ s₄ h₄ => wpC_pure (wpC_pure (.inl ⟨rfl, h₄⟩))) fun _ _ h' => h'))) fun _ _ h' => h'))) fun _ _ h' => h'))

theorem codeC_compStart_list {elt target iter : PySem.Expr} {ifs rest scope pos it acc env}
    (h0 : codeC (model prog w) A (.compLoop (.ListComp elt (⟨target, iter, ifs, 0⟩ :: rest) scope pos) 0 it acc env) R s)
    (h : wpAny (model prog w) A (pyIter it) (fun it' s' => codeC (model prog w) A (.compLoop (.ListComp elt (⟨target, iter, ifs, 0⟩ :: rest) scope pos) 0 it' acc env) R s') NoE s) :
    codeC (model prog w) A (.compStart (.ListComp elt (⟨target, iter, ifs, 0⟩ :: rest) scope pos) 0 it acc env) R s := by
  refine codeC_of_tree rfl ?_
  show wpC _ _ ((compStart (.ListComp elt (⟨target, iter, ifs, 0⟩ :: rest) scope pos) 0 it acc env).onRaise (fun x => do noteFrame x env; standAt theWindowsPlace)) _ _ s
  refine wpC_onRaiseF ?_
  unfold compStart
  show wpC _ _ (ask >>= _) _ _ s
  refine wpC_bind (wpC_of (wpAny_askSetting ?_))
  split
  · exact wpC_pure (And.intro rfl h0)
  · refine wpC_bind (wpC_of (wpAny_rule ?_))
    show wpC _ _ (standAt iter.pos >>= _) _ _ s
    exact wpC_bind (wpC_standAt (wpC_bind (wpC_of (wpAny_mono h (fun it' s' h' => wpC_pure (And.intro rfl h')) fun _ _ x => x))))

theorem codeC_forLoop {target it body env} (I : Nat → Shared → Prop)
    (turn : ∀ n s, I n s → wpAny (model prog w) A (pyNext it) (fun r s₁ => match r with
      | none => R (.ok .next) s₁
      | some v => wpAny (model prog w) A (letOwnedTupleGo target it v) (fun _ s₁' => wpAny (model prog w) A (assign target env v) (fun _ s₂ => wpC (model prog w) A (execs body env) (fun f s₃ => match f with
          | .next | .cont => ∃ m, m < n ∧ I m s₃
          | .brk => R (.ok .next) s₃
          | .ret v => R (.ok (.ret v)) s₃) NoE s₂) NoE s₁') NoE s₁) NoE s)
    (n : Nat) (h : I n s) : codeC (model prog w) A (.forLoop target it body [] env) R s := by
  refine codeC_loop' rfl rfl I (fun n s hI => ?_) n h
  show wpC _ _ ((forTurn target it body [] env).onRaise (fun x => do noteFrame x env; theTreesLotGoes x)) _ _ s
  refine wpC_onRaiseF ?_
  simp only [forTurn]
  refine wpC_bind (wpC_standAt (wpC_bind (wpC_onRaiseF (wpC_of (wpAny_mono (turn n s hI) (fun r s₁ h₁ => ?_) fun _ _ h' => h')))))
  cases r with
  | none => exact wpC_pure (.inr ⟨rfl, codeC_of (codeAny_block (wpAny_execs_nil h₁))⟩)
  | some v =>
    refine wpC_bind (wpC_of (wpAny_mono h₁ (fun _ s₁' h₂ => ?_) fun _ _ h' => h'))
    refine wpC_bind (wpC_of (wpAny_mono h₂ (fun _ s₂ h₃ => wpC_bind (wpC_mono h₃ (fun f s₃ h₄ => ?_) fun _ _ h' => h')) fun _ _ h' => h'))
    cases f with
    | next => exact wpC_pure (.inl ⟨rfl, h₄⟩)
    | cont => exact wpC_pure (.inl ⟨rfl, h₄⟩)
    | brk => exact wpC_pure h₄
    | ret v => exact wpC_pure h₄

theorem wpC_runOwn {c : Code} {env : Env} {Q : Flow → Shared → Prop} (h : codeC M A c (fun r s' => match r with | .ok f => Q f s' | .error _ => False) s) : wpC M A (runOwn c env) Q E s := by
  unfold runOwn
  refine wpC_onRaiseF (wpC_run (h := none) ?_)
  exact h

theorem wpC_For {target iter : PySem.Expr} {body : List Stmt} {pos : Pos} {env : Env} {Q : Flow → Shared → Prop}
    (h : wpAny M A (eval iter env) (fun v s₁ => wpAny M A (pyIter v) (fun it s₂ => codeC M A (.forLoop target it body [] env) (fun r s₃ => match r with
        | .ok f => Q f s₃
        | .error _ => False) s₂) NoE s₁) NoE s) (hs : ∀ x, foldedSetIterable iter env x = pure x := by intro _; rfl) : wpC M A (exec (.For target iter body [] pos) env) Q E s := by
  rw [exec_For]
  refine wpC_bind (wpC_standAt (wpC_bind (wpC_noE (wpC_of (wpAny_mono h (fun x s₁ h₁ => wpC_noE (wpC_bind (wpC_eq (hs x) (wpC_bind (wpC_standAt (wpC_bind (wpC_holding
    (wpC_of (wpAny_mono h₁ (fun it s₂ h₂ => wpC_runOwn h₂) fun _ _ h' => h'))))))))) fun _ _ h' => h')))))
end
end Mine
-- CC
namespace Mine
/-! a list comprehension over a list of the ledger, in a clean context -/
section
variable {prog : Program} {w : World} {A : Around} {E : Value → Shared → Prop} {s : Shared} {h₀ : Heap} {L : Addr} {m : PySem.Str → Option Value} {env : Env}

theorem wpC_ListComp {elt iter : PySem.Expr} {x : PySem.Str} {px : Pos} {scope : Scope} {cl : List (PySem.Str × Addr)} {pos : Pos} {ax : Addr} {its : Array Value} {k : Nat} {news : Led} (G : Nat → Value → Prop) {Q : Value → Shared → Prop}
    (_F₀ : Fr h₀ L s.heap m) (hh : A.handled = none) (hclos : closureFor scope env = pure cl) (hcell : ∀ y ∈ scope.names, y.2 ≠ .cell) (hkind : scope.kind = .function)
    (hnames : ∀ y ∈ scope.names, y.2 = .local → scope.names.lookup y.1 = some .local) (hx : scope.names.lookup x = some .local) (hsz : its.size ≤ 100000)
    (hi : wpAny (model prog w) A (eval iter env) (fun v s₁ => v = .ref ax ∧ (∃ h tk, s₁ = { s with heap := h, toks := tk }) ∧ Fr h₀ L s₁.heap m ∧ News h₀ L s₁.heap news ∧ (ax, ({ cls := .type "list", data := .seq its k } : Obj)) ∈ news) NoE s)
    (step : ∀ i v J oJ oC C D ys m₂ h tk, its[i]? = some v → LCg.NsObj oC m₂ → m₂ x = some v → Fr h₀ L h m → News h₀ L h ((J, oJ) :: (C, oC) :: (D, LCg.lst ys) :: news) → LCg.Off3 J C D news → ((@Ne Nat J C) ∧ (@Ne Nat J D) ∧ (@Ne Nat C D)) →
      wpC (model prog w) A (eval elt (compEnvC scope cl C env)) (fun y s₂ => G i y ∧ ∃ h' tk', s₂ = { s with heap := h', toks := tk' } ∧ Fr h₀ L h' m ∧ News h₀ L h' ((J, oJ) :: (C, oC) :: (D, LCg.lst ys) :: news)) NoE { s with heap := h, toks := tk })
    (fin : ∀ D ys h tk, ys.length = its.size → (∀ i y, ys[i]? = some y → G i y) → Fr h₀ L h m → News h₀ L h ((D, LCg.lst ys) :: news) → Q (.ref D) { s with heap := h, toks := tk })
    (hs : ∀ x, foldedSetIterable iter env x = pure x := by intro _; rfl) :
    wpC (model prog w) A (eval (.ListComp elt [⟨.Name x px, iter, [], 0⟩] scope pos) env) Q E s := by
  rw [eval_ListComp]
  unfold comprehension
  rw [hclos]
  refine wpC_noE (wpC_bind (wpC_of (wpAny_mono hi (fun xv s₁ h₁ => ?_) fun _ _ e => e)))
  obtain ⟨rfl, ⟨h1, tk1, rfl⟩, F, N, hm⟩ := h₁
  refine wpC_bind (wpC_standAt (wpC_bind (wpC_eq (hs _) (wpC_bind (wpC_holding (wpC_of ?_))))))
  have hl : h1.IsList ax its := ⟨_, (N _ hm).1, rfl, _, rfl⟩
  have hlt : ax < h1.objs.size := Heap.lt_size (N _ hm).1
  refine wpAny_pyIter_list hl ?_
  have hne : ax ≠ h1.objs.size := Nat.ne_of_lt hlt
  have W : Walks prog w A h1.objs.size [h1.objs.size, ax] [h1.objs.size] its.size (fun i v => its[i]? = some v) (fun i h => h.IsListIter h1.objs.size ax i ∧ h.IsList ax its) := Walks.list hh h1.objs.size ax hne its
  dsimp only
  rw [if_neg (by decide)]
  refine wpC_bind (wpC_of (wpAny_newObj_type (wpC_bind (wpC_eq rfl (wpC_bind (wpC_of (wpAny_newFunctionEnv hcell (by intro y hy; simp at hy) (fun h₄ hns hsb => ?_) hkind)))))))
  generalize hI : h1.objs.size = I at *
  generalize hH2 : h1.push { cls := .type "list_iterator", data := .fields #[.ref ax, .int 0 0] } = H2 at *
  have hI2 : I < H2.objs.size := by rw [← hH2, Heap.size_push, hI]; exact Nat.lt_succ_self _
  generalize hD : H2.objs.size = D at *
  generalize hH3 : H2.push { cls := .type "list", dict := none, data := .seq ([] : List Value).toArray } = H3 at *
  have hC : H3.objs.size = D + 1 := by rw [← hH3, Heap.size_push, hD]
  generalize H3.objs.size = C at *
  dsimp only at hns hsb F N
  have hDC : D ≠ C := by rw [hC]; exact Nat.ne_of_lt (Nat.lt_succ_self _)
  have hIC : I ≠ C := by rw [hC]; exact Nat.ne_of_lt (Nat.lt_succ_of_lt hI2)
  have hID : I ≠ D := Nat.ne_of_lt hI2
  have i2 : ∀ b o, h1.get? b = some o → H2.get? b = some o := fun b o e => hH2 ▸ Heap.get?_push_of_some _ e
  have i3 : ∀ b o, H2.get? b = some o → H3.get? b = some o := fun b o e => hH3 ▸ Heap.get?_push_of_some _ e
  have gI : H2.get? I = some { cls := .type "list_iterator", data := .fields #[.ref ax, .int 0 0] } := hH2 ▸ Heap.get?_push_at hI.symm rfl
  have gD : H3.get? D = some (LCg.lst []) := hH3 ▸ Heap.get?_push_at hD.symm rfl
  have up : ∀ b o, h1.get? b = some o → h₄.get? b = some o := fun b o e => by
    have hb : b < I := hI ▸ Heap.lt_size e
    refine hsb.extBut b o ?_ (Heap.get?_push_of_some _ (i3 _ _ (i2 _ _ e)))
    rw [hC]; exact Nat.ne_of_lt (Nat.lt_succ_of_lt (Nat.lt_trans hb hI2))
  have atI : h₄.IsListIter I ax 0 := ⟨_, hsb.extBut I _ hIC (Heap.get?_push_of_some _ (i3 _ _ gI)), rfl, rfl⟩
  have atD : h₄.get? D = some (LCg.lst []) := hsb.extBut D _ hDC (Heap.get?_push_of_some _ gD)
  have hl₄ : h₄.IsList ax its := ⟨_, up _ _ (N _ hm).1, rfl, _, rfl⟩
  have fresh : ∀ a, I ≤ a → h₀.get? a = none := fun a ha => by
    cases e : h₀.get? a with
    | none => rfl
    | some o' => exact absurd (Heap.lt_size (F.keep a o' e)) (Nat.not_lt.mpr (hI ▸ ha))
  have hLI : L < I := hI ▸ F.ns.lt
  have hLD : L < D := Nat.lt_trans hLI hI2
  have hLC : L < C := by rw [hC]; exact Nat.lt_succ_of_lt hLD
  have nI : h₀.get? I = none := fresh I (Nat.le_refl _)
  have nD : h₀.get? D = none := fresh D (Nat.le_of_lt hI2)
  have nC : h₀.get? C = none := fresh C (by rw [hC]; exact Nat.le_succ_of_le (Nat.le_of_lt hI2))
  have offN : ∀ p ∈ news, p.1 ≠ I ∧ p.1 ≠ C ∧ p.1 ≠ D := fun p hp => by
    have hb : p.1 < I := hI ▸ Heap.lt_size (N p hp).1
    refine ⟨Nat.ne_of_lt hb, ?_, Nat.ne_of_lt (Nat.lt_trans hb hI2)⟩
    rw [hC]; exact Nat.ne_of_lt (Nat.lt_succ_of_lt (Nat.lt_trans hb hI2))
  have off : LCg.Off3 I C D news := LCg.Off3.of offN
  have F₄ : Fr h₀ L h₄ m := F.keeps up
  have N₄ : News h₀ L h₄ ((D, LCg.lst []) :: news) := fun p hp => by
    rcases List.mem_cons.mp hp with rfl | hp
    · exact ⟨atD, Ne.symm (Nat.ne_of_lt hLD), nD⟩
    · exact ⟨up _ _ (N p hp).1, (N p hp).2⟩
  refine wpC_holding (wpC_bind (wpC_attempt (wpC_holding (wpC_run ?_))))
  have hmark : A.mark none = A := by
    obtain ⟨hd, dp, fr, gd, un⟩ := A
    simp only at hh
    subst hh
    rfl
  rw [hmark]
  refine codeC_compStart_list ?loop (W.self 0 _ _ _ ⟨atI, hl₄⟩ ?loop)
  refine codeC_compLoop_list (env := compEnvC scope cl C env)
    (fun kk s' => ∃ h' tk i ys m', s' = { s with heap := h', toks := tk } ∧ i ≤ its.size ∧ kk = its.size + 1 - i ∧ ys.length = i ∧ (∀ j y, ys[j]? = some y → G j y) ∧ (h'.IsListIter I ax i ∧ h'.IsList ax its) ∧ Fr h₀ L h' m ∧ h'.Ns C m' ∧ News h₀ L h' ((D, LCg.lst ys) :: news)) ?_ (its.size + 1)
    ⟨h₄, _, 0, [], _, rfl, Nat.zero_le _, rfl, rfl, (fun j y q => by simp at q), ⟨atI, hl₄⟩, F₄, hns, N₄⟩
  rintro kk s' ⟨h', tk, i, ys, m', rfl, hi', rfl, hyl, hG, hst', F', hn', N'⟩
  have off3 := off.mem
  by_cases hlt' : i < its.size
  · refine W.item i _ _ _ hlt' hst' fun v h₂ tk₂ hPv hst₂ hk₂ => ?_
    refine wpAny_assign_Name (wpAny_storeName_local (lookup_relabel_local hx) (hn'.at' fun o e => hk₂ _ o (by simpa using Ne.symm hIC) e) (fun h₃ hn₃ hs₃ => ?_) (by simp [compEnvC, relabel, hkind]))
    have hst₃ : h₃.IsListIter I ax (i + 1) ∧ h₃.IsList ax its := W.frame _ _ _ hst₂ fun b hb o e => hs₃.extBut b o (fun q => by
      simp only [List.mem_cons, List.not_mem_nil, or_false] at hb
      rcases hb with rfl | rfl
      · exact hIC q
      · exact (off3 _ hm).2.1 q) e
    obtain ⟨oI, heI, hoI⟩ := hst₃.1
    obtain ⟨oC, heC, hoC⟩ := LCg.ns_obj hn₃
    have F₃ : Fr h₀ L h₃ m := (LCg.fr_but F' hk₂ (Nat.ne_of_lt hLI) nI).change hs₃ (Ne.symm (Nat.ne_of_lt hLC)) nC
    have N₂ : News h₀ L h₂ ((D, LCg.lst ys) :: news) := LCg.news_but N' hk₂ fun p hp => by
      rcases List.mem_cons.mp hp with rfl | hp
      · exact Ne.symm hID
      · exact (off3 p hp).1
    have N₃ : News h₀ L h₃ ((I, oI) :: (C, oC) :: (D, LCg.lst ys) :: news) := fun p hp => by
      rcases List.mem_cons.mp hp with rfl | hp
      · exact ⟨heI, Ne.symm (Nat.ne_of_lt hLI), nI⟩
      · rcases List.mem_cons.mp hp with rfl | hp
        · exact ⟨heC, Ne.symm (Nat.ne_of_lt hLC), nC⟩
        · have z := N₂ p hp
          refine ⟨hs₃.extBut _ _ ?_ z.1, z.2⟩
          rcases List.mem_cons.mp hp with rfl | hp
          · exact hDC
          · exact (off3 p hp).2.1
    refine wpC_mono (step i v I oI oC C D ys _ h₃ _ hPv hoC (by simp) F₃ N₃ off ⟨hIC, hID, Ne.symm hDC⟩) (fun y s₄ h₄' => ?_) fun _ _ e => e
    obtain ⟨hGy, h5, tk5, rfl, F5, N5⟩ := h₄'
    have zI := (N5 (I, oI) List.mem_cons_self).1
    have zC := (N5 (C, oC) (List.mem_cons_of_mem _ List.mem_cons_self)).1
    have zD := (N5 (D, LCg.lst ys) (List.mem_cons_of_mem _ (List.mem_cons_of_mem _ List.mem_cons_self))).1
    have zN : ∀ p ∈ news, h5.get? p.1 = some p.2 := fun p hp => (N5 p (List.mem_cons_of_mem _ (List.mem_cons_of_mem _ (List.mem_cons_of_mem _ hp)))).1
    refine append_at (hsz := by show ys.toArray.size ≤ sizeLine; rw [List.size_toArray, hyl]; exact Nat.le_trans (Nat.le_trans hi' hsz) (by decide)) zD fun h6 hs6 hD6 => ?_
    refine ⟨its.size + 1 - (i + 1), by omega, h6, tk5, i + 1, ys ++ [y], _, rfl, hlt', rfl, by rw [List.length_append, List.length_singleton, hyl], fun j z q => ?_, ⟨⟨oI, hs6.extBut _ _ hID zI, hoI⟩, ⟨_, hs6.extBut _ _ (off3 _ hm).2.2 (zN _ hm), rfl, _, rfl⟩⟩,
      F5.change hs6 (Ne.symm (Nat.ne_of_lt hLD)) nD, (hoC.ns zC).sameBut hs6 (Ne.symm hDC), fun p hp => ?_⟩
    · by_cases hj : j < ys.length
      · rw [List.getElem?_append_left hj] at q
        exact hG j z q
      · rw [List.getElem?_append_right (by omega)] at q
        have hj0 : j - ys.length = 0 := by
          have := (List.getElem?_eq_some_iff.mp q).1
          simp at this
          omega
        rw [hj0] at q
        cases q
        have : j = i := by omega
        subst this
        exact hGy
    · rcases List.mem_cons.mp hp with rfl | hp
      · exact ⟨hD6.trans (congrArg some (LCg.lst_snoc ys y)), Ne.symm (Nat.ne_of_lt hLD), nD⟩
      · exact ⟨hs6.extBut _ _ (off3 p hp).2.2 (zN p hp), (N p hp).2⟩
  · obtain rfl : i = its.size := Nat.le_antisymm hi' (Nat.not_lt.mp hlt')
    refine W.done _ _ _ hst' fun h₂ tk₂ hk₂ => ?_
    have N₂ : News h₀ L h₂ ((D, LCg.lst ys) :: news) := LCg.news_but N' hk₂ fun p hp => by
      rcases List.mem_cons.mp hp with rfl | hp
      · exact Ne.symm hID
      · exact (off3 p hp).1
    have F₂ : Fr h₀ L h₂ m := LCg.fr_but F' hk₂ (Nat.ne_of_lt hLI) nI
    dsimp only
    refine wpC_bind (wpC_holding (wpC_of (wpAny_comp_letGo (cenv := compEnvC scope cl C env) hkind _ _ m' (fun z hz hl => ?_) (hn'.at' fun o e => hk₂ _ o (by simpa using Ne.symm hIC) e) fun h3 m3 hn3 hs3 => ?_)))
    · exact lookup_relabel_local (hnames z (List.mem_filter.mp (List.mem_reverse.mp hz)).1 hl)
    · refine wpC_pure (fin D ys h3 _ hyl hG (F₂.change hs3 (Ne.symm (Nat.ne_of_lt hLC)) nC) fun p hp => ?_)
      refine ⟨hs3.extBut _ _ ?_ (N₂ p hp).1, (N₂ p hp).2⟩
      rcases List.mem_cons.mp hp with rfl | hp
      · exact hDC
      · exact (off3 p hp).2.1
end
end Mine
-- JN
namespace Mine
/-! b''.join of a list of none, one or two bytes -/
section
open PySem.Builtin PySem.Builtin.Bytes
theorem take_bytes (b : Array UInt8) (t : Tok) : takeBufferQuiet? "bytes.join" (.bytes b t) 0 = pure (some (b, none)) := by kernel_rfl
theorem slot_bytes_join : Slot "bytes" "join" "bytes.join" :=
  .of (owner := "bytes") (n := "join") (by rw [typeLookup_type, builtinLookup_eq_fast]; kernel_rfl) (by decide +kernel) (by decide +kernel) (by decide +kernel)
    (by first | exact .inl (by decide +kernel) | exact .inr (by decide +kernel)) (by rw [isSubtype_type]; kernel_rfl)
theorem type_bytes_join : typeOf (.builtin "bytes.join") = pure (.type "method_descriptor") := by show builtinType _ = _; rw [builtinType_eq_fast]; kernel_rfl
theorem entry_bytes_join : entryFor table "bytes.join" = some Builtin.«bytes.join» := entryFor_of_tree (by kernel_rfl)
theorem args_bytes_join_2 (a b : Value) : argsOk "bytes.join" ⟨[a, b], []⟩ := by
  unfold argsOk; rw [signature?_of (id := "bytes.join") (n := ['n', 'i', 'o', 'j']) (o := ['s', 'e', 't', 'y', 'b']) (by kernel_rfl) FB.owner_bytes]; kernel_rfl
variable {prog : Program} {w : World} {A : Around} {E : Value → Shared → Prop} {s : Shared}
theorem method_join {M : Model} {b : Array UInt8} {t : Tok} {pl : Sem Bool} {Q : Value × List Value → Shared → Prop} (h : Q (.builtin "bytes.join", [.bytes b t]) s) : wpAny M A (getMethod (.bytes b t) "join" pl) Q E s := by
  with_reducible exact getMethod_builtin (typeIs_bytes _ _ _) FB.plainAttrs_bytes slot_bytes_join type_bytes_join (fun _ e => nomatch e) h
theorem self_and_one (b : Array UInt8) (t : Tok) (v : Value) : selfAndOne "bytes.join" ⟨[.bytes b t, v], []⟩ = pure (.bytes b t, v) := by first | rfl | kernel_rfl

theorem forIn_inv {M : Model} {A : Around} {E : Value → Shared → Prop} {s : Shared} {β : Type} {n : Nat} {Q : β → Shared → Prop} (f : Nat → β → Sem (ForInStep β)) (J : Nat → β → Prop)
    (step : ∀ i b, i < n → J i b → wpAny M A (f i b) (fun r s' => s' = s ∧ ∃ b', r = .yield b' ∧ J (i + 1) b') E s) (hQ : ∀ b, J n b → Q b s) : ∀ (k i : Nat) (b : β), J i b → i + k = n → wpAny M A (forIn (List.range' i k) b f) Q E s := by
  intro k
  induction k with
  | zero =>
    intro i b hb e
    have : i = n := by omega
    subst this
    exact wpAny_pure (hQ b hb)
  | succ k ih =>
    intro i b hb e
    rw [List.range'_succ, List.forIn_cons]
    refine wpAny_bind (wpAny_mono (step i b (by omega) hb) (fun r s' h' => ?_) fun _ _ x => x)
    obtain ⟨rfl, b', rfl, hb'⟩ := h'
    exact ih (i + 1) b' hb' (by omega)

/-- the values of a list of octets and their tokens -/
noncomputable def bytesVals (ls : List (List UInt8 × Tok)) : List Value := ls.map fun p => .bytes p.1.toArray p.2
theorem foldl_join : ∀ (ps : List (Array UInt8)) (i : Nat) (acc : Array UInt8), (ps.zipIdx i).foldl (fun out (p, i) => (if i > 0 then out ++ (#[] : Array UInt8) else out) ++ p) acc = acc ++ (ps.map (·.toList)).flatten.toArray := by
  intro ps
  induction ps with
  | nil => intro i acc; simp
  | cons p r ih =>
    intro i acc
    rw [List.zipIdx_cons, List.foldl_cons, ih]
    have : (if i > 0 then acc ++ (#[] : Array UInt8) else acc) = acc := by split <;> simp
    dsimp only
    rw [this]
    apply Array.ext'
    simp
theorem join_is (ls : List (List UInt8 × Tok)) : joined #[] (ls.map fun p => p.1.toArray) = (ls.map (·.1)).flatten.toArray := by
  unfold joined
  rw [foldl_join]
  simp
  rfl

theorem joinLetGo_ok {M : Model} {A : Around} {E : Value → Shared → Prop} {s : Shared} {Q : Unit → Shared → Prop} {keep : List Value} (h : Q () s) : ∀ (ls : List (List UInt8 × Tok)), wpAny M A (joinLetGo (ls.map fun p => (Value.bytes p.1.toArray p.2, none)) keep) Q E s
  | [] => wpAny_pure h
  | p :: r => by
    rw [List.map_cons]
    unfold joinLetGo
    dsimp only
    refine wpAny_bind (wpAny_letGo ?_)
    exact joinLetGo_ok h r
theorem noHeap (ls : List (List UInt8 × Tok)) : ((ls.map fun p => ((Value.bytes p.1.toArray p.2, none) : Value × Option Value)).any fun x => x.1.onHeap) = false := by
  induction ls with
  | nil => rfl
  | cons p r ih => rw [List.map_cons, List.any_cons, ih]; rfl
theorem foldl_size (ls : List (List UInt8 × Tok)) : ∀ k, ((ls.map fun p => p.1.toArray).toArray.foldl (fun x1 x2 => x1 + x2.size) k) = k + (ls.map (·.1)).flatten.length := by
  induction ls with
  | nil => intro k; simp
  | cons p r ih =>
    intro k
    have := ih (k + p.1.length)
    simp at this ⊢
    omega

theorem get_is (ls : List (List UInt8 × Tok)) {i : Nat} (hi : i < ls.length) : (bytesVals ls).toArray.getD i Value.none = .bytes ls[i].1.toArray ls[i].2 := by
  have : i < (bytesVals ls).toArray.size := by simpa [bytesVals] using hi
  rw [Array.getD, dif_pos this]
  simp [bytesVals]
theorem step_is (ls : List (List UInt8 × Tok)) {i : Nat} (hi : i < ls.length) :
    ((((ls.take i).map fun p => p.1.toArray).toArray.push ls[i].1.toArray, ((ls.take i).map fun p => ((Value.bytes p.1.toArray p.2, none) : Value × Option Value)) ++ [(Value.bytes ls[i].1.toArray ls[i].2, none)]) : Array (Array UInt8) × List (Value × Option Value)) =
      (((ls.take (i + 1)).map fun p => p.1.toArray).toArray, (ls.take (i + 1)).map fun p => (Value.bytes p.1.toArray p.2, none)) := by
  rw [List.take_succ_eq_append_getElem hi]
  simp only [List.map_append, List.map_cons, List.map_nil, List.push_toArray]

theorem join_run {D : Addr} {n : Nat} {t : Tok} {ls : List (List UInt8 × Tok)} {Q : Fin → Shared → Prop} (hl : s.heap.get? D = some { cls := .type "list", data := .seq (bytesVals ls).toArray n })
    (hsz : (ls.map (·.1)).flatten.length ≤ 1000000) (hn : ls.length ≤ 1000)
    (h : ∀ t' tk, Q (.done (.ret (.bytes (ls.map (·.1)).flatten.toArray t'))) { s with toks := tk }) : wpAny (model prog w) A (Builtin.«bytes.join» ⟨[.bytes #[] t, .ref D], []⟩) Q E s := by
  show wpAny _ A (joinM .bytes ⟨[.bytes #[] t, .ref D], []⟩) _ _ _
  unfold joinM
  refine wpAny_bind (wpAny_of_eq (self_and_one _ _ _) ?_)
  dsimp only
  rw [if_pos (show (Kind.bytes == Kind.bytes) = true from rfl)]
  unfold joinItems
  refine wpAny_bind (wpAny_bind (wpAny_typeOf (T := "list") ⟨_, hl, rfl⟩ ?_))
  rw [if_pos (by decide)]
  refine wpAny_pure (wpAny_bind (wpAny_seqItems hl rfl ?_))
  dsimp only
  rw [if_pos (show (Kind.bytes == Kind.bytes) = true from rfl)]
  match ls with
  | [p] =>
    show wpAny _ A (do
      let __do_lift ← typeOf (Value.bytes p.1.toArray p.2)
      _) _ _ _
    refine wpAny_bind (wpAny_typeOf (T := "bytes") (typeIs_bytes _ _ _) ?_)
    rw [if_pos (by decide)]
    have h' := h p.2 s.toks
    simp only [List.map_cons, List.map_nil, List.flatten_cons, List.flatten_nil, List.append_nil] at h'
    exact wpAny_bind (wpAny_rule (wpAny_pure h'))
  | [] =>
    show wpAny _ A (forIn [:(bytesVals ([] : List (List UInt8 × Tok))).toArray.size] ((#[] : Array (Array UInt8)), ([] : List (Value × Option Value))) _ >>= _) _ _ _
    refine wpAny_bind ?_
    rw [Std.Legacy.Range.forIn_eq_forIn_range']
    have hsize : (Std.Legacy.Range.size [:(bytesVals ([] : List (List UInt8 × Tok))).toArray.size]) = ([] : List (List UInt8 × Tok)).length := by simp [Std.Legacy.Range.size, bytesVals]
    rw [hsize]
    refine forIn_inv (n := ([] : List (List UInt8 × Tok)).length) _ (fun i b => b = (((([] : List (List UInt8 × Tok)).take i).map fun p => p.1.toArray).toArray, (([] : List (List UInt8 × Tok)).take i).map fun p => (Value.bytes p.1.toArray p.2, none))) (fun i b hi hb => ?_) (fun b hb => ?_) ([] : List (List UInt8 × Tok)).length 0 _ (by simp) (by simp)
    · subst hb
      refine wpAny_bind (wpAny_seqItems hl rfl ?_)
      dsimp only
      rw [noHeap, if_neg (by decide)]
      rw [get_is ([] : List (List UInt8 × Tok)) hi]
      refine wpAny_bind (wpAny_holding (wpAny_of_eq (take_bytes _ _) ?_))
      dsimp only
      refine wpAny_bind (wpAny_seqItems hl rfl ?_)
      dsimp only
      rw [if_neg (by simp)]
      refine wpAny_pure ⟨rfl, _, rfl, ?_⟩
      exact step_is ([] : List (List UInt8 × Tok)) hi
    · subst hb
      refine wpAny_bind (wpAny_of_eq (a := (#[] : Array UInt8)) (by first | rfl | kernel_rfl) ?_)
      dsimp only
      rw [List.take_length, foldl_size]
      rw [if_neg (by simp only [tooLong, decide_eq_true_eq, sizeLine_eq, Array.size_empty, Nat.zero_mul, Nat.zero_add]; omega)]
      have hj := join_is ([] : List (List UInt8 × Tok))
      rw [hj]
      refine wpAny_bind (wpAny_mkBytes ?_ (by rw [List.size_toArray, sizeLine_eq]; omega))
      refine wpAny_bind (wpAny_holding (wpAny_point (wpAny_bind (joinLetGo_ok (wpAny_pure ?_) _))))
      exact h _ _
  | p :: q :: r =>
    show wpAny _ A (forIn [:(bytesVals (p :: q :: r)).toArray.size] ((#[] : Array (Array UInt8)), ([] : List (Value × Option Value))) _ >>= _) _ _ _
    refine wpAny_bind ?_
    rw [Std.Legacy.Range.forIn_eq_forIn_range']
    have hsize : (Std.Legacy.Range.size [:(bytesVals (p :: q :: r)).toArray.size]) = (p :: q :: r).length := by simp [Std.Legacy.Range.size, bytesVals]
    rw [hsize]
    refine forIn_inv (n := (p :: q :: r).length) _ (fun i b => b = ((((p :: q :: r).take i).map fun p => p.1.toArray).toArray, ((p :: q :: r).take i).map fun p => (Value.bytes p.1.toArray p.2, none))) (fun i b hi hb => ?_) (fun b hb => ?_) (p :: q :: r).length 0 _ (by simp) (by simp)
    · subst hb
      refine wpAny_bind (wpAny_seqItems hl rfl ?_)
      dsimp only
      rw [noHeap, if_neg (by decide)]
      rw [get_is (p :: q :: r) hi]
      refine wpAny_bind (wpAny_holding (wpAny_of_eq (take_bytes _ _) ?_))
      dsimp only
      refine wpAny_bind (wpAny_seqItems hl rfl ?_)
      dsimp only
      rw [if_neg (by simp)]
      refine wpAny_pure ⟨rfl, _, rfl, ?_⟩
      exact step_is (p :: q :: r) hi
    · subst hb
      refine wpAny_bind (wpAny_of_eq (a := (#[] : Array UInt8)) (by first | rfl | kernel_rfl) ?_)
      dsimp only
      rw [List.take_length, foldl_size]
      rw [if_neg (by simp only [tooLong, decide_eq_true_eq, sizeLine_eq, Array.size_empty, Nat.zero_mul, Nat.zero_add]; omega)]
      have hj := join_is (p :: q :: r)
      rw [hj]
      refine wpAny_bind (wpAny_mkBytes ?_ (by rw [List.size_toArray, sizeLine_eq]; omega))
      refine wpAny_bind (wpAny_holding (wpAny_point (wpAny_bind (joinLetGo_ok (wpAny_pure ?_) _))))
      exact h _ _
theorem join_b {D : Addr} {n : Nat} {t : Tok} {ls : List (List UInt8 × Tok)} {Q : Value → Shared → Prop} (hl : s.heap.get? D = some { cls := .type "list", data := .seq (bytesVals ls).toArray n })
    (hsz : (ls.map (·.1)).flatten.length ≤ 1000000) (hn : ls.length ≤ 1000) (h : ∀ t' tk, Q (.bytes (ls.map (·.1)).flatten.toArray t') { s with toks := tk }) :
    wpAny (model prog w) A (call (.builtin "bytes.join") [.bytes #[] t, .ref D]) Q E s :=
  wpAny_call_entry slot_bytes_join (typeIs_bytes _ _ _) entry_bytes_join (join_run hl hsz hn fun t' tk => ⟨_, rfl, h t' tk⟩) (args_bytes_join_2 _ _)
end
end Mine
-- MC
namespace Mine
section
variable {M : Model} {A : Around} {E : Value → Shared → Prop} {s : Shared} {env : Env}
theorem wpC_methodCall {o : PySem.Expr} {name : PySem.Str} {apos pos : Pos} {args : List PySem.Expr} {pl : Sem Bool} {Q : Value → Shared → Prop}
    (h : wpAny M A (eval o env) (fun ov s₁ => wpAny M A (getMethod ov name pl) (fun fx s₂ => wpC M A (callWith pos fx.1 fx.2 (backTo pos (starEach args env)) []) Q E s₂) E s₁) E s)
    (he : eval (.Call (.Attribute o name apos) args [] pos) env = (do
      let ov ← eval o env
      standAt apos.atName
      let (f, first) ← holding [ov] (getMethod ov name pl)
      callWith pos f first (backTo pos (starEach args env)) (backToKw pos (keywordEach [] env))) := by rfl) : wpC M A (eval (.Call (.Attribute o name apos) args [] pos) env) Q E s := by
  rw [he]
  exact wpC_bindA (wpAny_mono h (fun ov s₁ h₁ => wpC_bind (wpC_standAt (wpC_bindA (wpAny_holding (wpAny_mono h₁ (fun fx s₂ h₂ => h₂) fun _ _ x => x))))) fun _ _ x => x)
end
end Mine
-- FC
namespace Mine
/-! a for over a list of the ledger, in a clean context -/
section
variable {prog : Program} {w : World} {A : Around} {E : Value → Shared → Prop} {s : Shared} {h₀ : Heap} {L : Addr} {m : PySem.Str → Option Value} {env : Env}
theorem letOwned_list {M : Model} {target : PySem.Expr} {I ax : Addr} {i : Nat} {v : Value} {Q : Unit → Shared → Prop} (hit : s.heap.IsListIter I ax i) (h : Q () s) : wpAny M A (letOwnedTupleGo target (.ref I) v) Q E s := by
  obtain ⟨o, ho, hc, hd⟩ := hit
  have key : wpAny M A (match (Value.ref I, v) with
      | (Value.ref r, Value.ref a) => (do
        let o ← load r
        match o.cls, o.data with
        | .type n, .fields vs =>
          if ["enumerate", "zip", "dict_itemiterator", "dict_reverseitemiterator", "odict_iterator", "itertools.zip_longest", "itertools.pairwise"].contains n && vs[0]? == some (rawInt a) then
            rule "for.unpacks-the-owned-tuple"
            updateField r 0 .none
        | _, _ => pure () : Sem Unit)
      | _ => pure ()) Q E s := by
    cases v <;> first | exact wpAny_pure h | skip
    refine wpAny_bind (wpAny_load ho ?_)
    rw [hc, hd]
    dsimp only
    rw [if_neg (by rw [show (["enumerate", "zip", "dict_itemiterator", "dict_reverseitemiterator", "odict_iterator", "itertools.zip_longest", "itertools.pairwise"].contains "list_iterator") = false from by decide]; simp)]
    exact wpAny_pure h
  cases target <;> first | exact wpAny_pure h | exact key

theorem wpC_ForList {target iter : PySem.Expr} {body : List Stmt} {pos : Pos} {ax : Addr} {its : Array Value} {k : Nat} {news : Led} (J : Nat → (PySem.Str → Option Value) → Led → Prop) {Q : Flow → Shared → Prop}
    (_F₀ : Fr h₀ L s.heap m) (hh : A.handled = none)
    (hi : wpAny (model prog w) A (eval iter env) (fun v s₁ => v = .ref ax ∧ (∃ h tk, s₁ = { s with heap := h, toks := tk }) ∧ Fr h₀ L s₁.heap m ∧ News h₀ L s₁.heap news) NoE s)
    (hm : (ax, ({ cls := .type "list", data := .seq its k } : Obj)) ∈ news) (h0 : J 0 m news)
    (step : ∀ i v I oI m₁ nw h tk, its[i]? = some v → J i m₁ nw → (∀ p ∈ nw, p.1 ≠ I) → (ax, ({ cls := .type "list", data := .seq its k } : Obj)) ∈ nw → Fr h₀ L h m₁ → News h₀ L h ((I, oI) :: nw) →
      wpAny (model prog w) A (assign target env v) (fun _ s₂ => wpC (model prog w) A (execs body env) (fun f s₃ => match f with
        | .next | .cont => ∃ h' tk' m' nw', s₃ = { s with heap := h', toks := tk' } ∧ Fr h₀ L h' m' ∧ News h₀ L h' ((I, oI) :: nw') ∧ (∀ p ∈ nw', p.1 ≠ I) ∧ (ax, ({ cls := .type "list", data := .seq its k } : Obj)) ∈ nw' ∧ J (i + 1) m' nw'
        | .brk => False
        | .ret v => Q (.ret v) s₃) NoE s₂) NoE { s with heap := h, toks := tk })
    (fin : ∀ m₁ nw h tk, J its.size m₁ nw → Fr h₀ L h m₁ → News h₀ L h nw → Q .next { s with heap := h, toks := tk })
    (hs : ∀ x, foldedSetIterable iter env x = pure x := by intro _; rfl) :
    wpC (model prog w) A (exec (.For target iter body [] pos) env) Q E s := by
  refine wpC_For (wpAny_mono hi (fun v s₁ h₁ => ?_) fun _ _ x => x) hs
  obtain ⟨rfl, ⟨h1, tk1, rfl⟩, F, N⟩ := h₁
  dsimp only at F N
  have hl : h1.IsList ax its := ⟨_, (N _ hm).1, rfl, _, rfl⟩
  refine wpAny_pyIter_list hl ?_
  have upI : ∀ b o, h1.get? b = some o → (h1.push { cls := .type "list_iterator", data := .fields #[.ref ax, .int 0 0] }).get? b = some o := fun b o e => Heap.get?_push_of_some _ e
  have atI : (h1.push { cls := .type "list_iterator", data := .fields #[.ref ax, .int 0 0] }).get? h1.objs.size = some { cls := .type "list_iterator", data := .fields #[.ref ax, .int 0 0] } := Heap.get?_push_size _ rfl
  have nI : h₀.get? h1.objs.size = none := next_is_new F
  have hLI : L ≠ h1.objs.size := Nat.ne_of_lt F.ns.lt
  have off : ∀ p ∈ news, p.1 ≠ h1.objs.size := fun p hp => Nat.ne_of_lt (Heap.lt_size (N p hp).1)
  generalize h1.objs.size = I at *
  refine codeC_forLoop
    (fun kk s' => ∃ h' tk i m' nw oI, s' = { s with heap := h', toks := tk } ∧ i ≤ its.size ∧ kk = its.size + 1 - i ∧ h'.IsListIter I ax i ∧ Fr h₀ L h' m' ∧ News h₀ L h' ((I, oI) :: nw) ∧ (∀ p ∈ nw, p.1 ≠ I) ∧ (ax, ({ cls := .type "list", data := .seq its k } : Obj)) ∈ nw ∧ J i m' nw) ?_ (its.size + 1)
    ⟨_, tk1, 0, m, news, { cls := .type "list_iterator", data := .fields #[.ref ax, .int 0 0] }, rfl, Nat.zero_le _, rfl, ⟨_, atI, rfl, rfl⟩, F.keeps upI, ?_, off, hm, h0⟩
  · rintro kk s' ⟨h', tk, i, m', nw, oI, rfl, hi', rfl, hit, F', N', off', hm', hJ⟩
    have hl' : h'.IsList ax its := ⟨_, (N' _ (List.mem_cons_of_mem _ hm')).1, rfl, _, rfl⟩
    have hax : ax ≠ I := off' _ hm'
    by_cases hlt : i < its.size
    · refine wpAny_pyNext_list_item hit hl' (x := its[i]) (by simp [hlt]) fun h₂ hit₂ hs₂ => ?_
      dsimp only
      refine letOwned_list hit₂ ?_
      obtain ⟨oI₂, heI, hoI⟩ := hit₂
      have F₂ : Fr h₀ L h₂ m' := F'.change hs₂ (Ne.symm hLI) nI
      have N₂ : News h₀ L h₂ ((I, oI₂) :: nw) := fun p hp => by
        rcases List.mem_cons.mp hp with rfl | hp
        · exact ⟨heI, Ne.symm hLI, nI⟩
        · exact ⟨hs₂.extBut _ _ (off' p hp) (N' p (List.mem_cons_of_mem _ hp)).1, (N' p (List.mem_cons_of_mem _ hp)).2⟩
      refine wpAny_mono (step i its[i] I oI₂ m' nw h₂ _ (by simp [hlt]) hJ off' hm' F₂ N₂) (fun _ s₂ h₂' => wpC_mono h₂' (fun f s₃ h₃ => ?_) fun _ _ x => x) fun _ _ x => x
      have go : (∃ h' tk' m' nw', s₃ = { s with heap := h', toks := tk' } ∧ Fr h₀ L h' m' ∧ News h₀ L h' ((I, oI₂) :: nw') ∧ (∀ p ∈ nw', p.1 ≠ I) ∧ (ax, ({ cls := .type "list", data := .seq its k } : Obj)) ∈ nw' ∧ J (i + 1) m' nw') →
          ∃ m, m < its.size + 1 - i ∧ ∃ h' tk i m' nw oI, s₃ = { s with heap := h', toks := tk } ∧ i ≤ its.size ∧ m = its.size + 1 - i ∧ h'.IsListIter I ax i ∧ Fr h₀ L h' m' ∧ News h₀ L h' ((I, oI) :: nw) ∧ (∀ p ∈ nw, p.1 ≠ I) ∧ (ax, ({ cls := .type "list", data := .seq its k } : Obj)) ∈ nw ∧ J i m' nw := by
        rintro ⟨h4, tk4, m4, nw4, rfl, F4, N4, off4, hm4, hJ4⟩
        exact ⟨its.size + 1 - (i + 1), by omega, h4, tk4, i + 1, m4, nw4, oI₂, rfl, hlt, rfl, ⟨oI₂, (N4 _ (List.mem_cons_self ..)).1, hoI⟩, F4, N4, off4, hm4, hJ4⟩
      cases f with
      | next => exact go h₃
      | cont => exact go h₃
      | brk => exact h₃.elim
      | ret v => exact h₃
    · obtain rfl : i = its.size := Nat.le_antisymm hi' (Nat.not_lt.mp hlt)
      refine wpAny_pyNext_list_end hh hit hl' (by simp) fun h₂ he₂ => ?_
      refine fin m' nw h₂ _ hJ (LCg.fr_but F' (fun b o hb e => he₂ b o (by simpa using hb) e) hLI nI) fun p hp => ?_
      exact ⟨he₂ _ _ (off' p hp) (N' p (List.mem_cons_of_mem _ hp)).1, (N' p (List.mem_cons_of_mem _ hp)).2⟩
  · intro p hp
    rcases List.mem_cons.mp hp with rfl | hp
    · exact ⟨atI, Ne.symm hLI, nI⟩
    · exact ⟨upI _ _ (N p hp).1, (N p hp).2⟩
end
end Mine
namespace Mine
/-! lines of the walk -/
local macro_rules | `(tactic| walk_at "mine enter") => `(tactic| (
  (case ho => k_dflt k_is)
  (case hcd => k_dflt k_is)
  (case hbind => with_unfolding_all rfl)
  (case hloc => exact locs rfl)
  (case hcell => decide)
  (case hco => rfl)
  (case hgen => rfl)
  (case hk => rfl)))
local macro_rules | `(tactic| walk_at "mine size") => `(tactic| ((try simp only [List.length_append, List.length_cons, List.length_nil, List.length_take, List.length_drop, List.length_map, ofInts_length, be2_length, be3_length, fieldOf_length, writtenOf_length]); omega))
local macro_rules | `(tactic| walk_at "binaryOp Add bytes bytes") => `(tactic| (refine' add_b ?hz ?_; (case hz => walk_at "mine size"); intro _ _))
local macro_rules | `(tactic| walk_at "call builtin:len") => `(tactic| ((with_reducible show wpAny _ _ (call (Value.builtin "len") [Value.bytes (List.toArray _) _]) _ _ _); refine' len_b ?hz ?_; (case hz => walk_at "mine size"); intro _ _))
local macro_rules | `(tactic| walk_at "compareOp Eq bytes bytes") => `(tactic| refine eq_b ?_)
local macro_rules | `(tactic| walk_at "compareOp NotEq bytes bytes") => `(tactic| refine ne_b ?_)
local macro_rules | `(tactic| walk_at "call type:bytes") => `(tactic| ((with_reducible show wpAny _ _ (call (Value.type "bytes") [Value.ref _]) _ _ _); k_dflt (refine' bytes_b ?kbaF ?kbaN ?kbah ?kbal ?kbai ?kbar ?kban ?_; (case kbaF => k_asm); (case kbaN => k_asm); (case kbah => rfl); (case kbal => kba_isList); (case kbai => kba_listInts); (case kbar => assumption); (case kban => walk_at "mine size")); intro _ _ _ F' N'))
local macro_rules | `(tactic| walk_at "mine slice") => `(tactic| ((with_reducible rename Fr _ _ _ _ => F'); (with_reducible rename News _ _ _ _ => N'); (refine' slice_b (s := ⟨_, _, _, _, _⟩) F' N' ?kl ?ku ?kz ?_; (case kl => constructor); (case ku => constructor); (case kz => walk_at "mine size")); intro _ _ _ _ _))
local macro_rules | `(tactic| walk_at "subscriptTail Name Slice bytes ref") => `(tactic| walk_at "mine slice")
local macro_rules | `(tactic| walk_at "subscriptTail Call Slice bytes ref") => `(tactic| walk_at "mine slice")
local macro_rules | `(tactic| walk_at "mine item") => `(tactic| (refine' item_b ?hz ?h0 ?h1 ?_; (case hz => walk_at "mine size"); (case h0 => omega); (case h1 => first | omega | walk_at "mine size"); intro _ _))
local macro_rules | `(tactic| walk_at "subscriptTail Name Name bytes int") => `(tactic| walk_at "mine item")
local macro_rules | `(tactic| walk_at "subscriptTail Name BinOp bytes int") => `(tactic| walk_at "mine item")
/-- the last row of a body's walk: it gives back, and what it was lent stands as Post says -/
local macro_rules | `(tactic| walk_at "mine end") => `(tactic| (refine ⟨_, _, _, [], rfl, (by assumption), News.nil, ?_⟩))
local macro_rules | `(tactic| walk_at "mine use") => `(tactic| (
  (case B => assumption)
  (case F => assumption)
  (case X => assumption)
  (case N => assumption)
  (case T => assumption)
  (case hk => rfl)
  (case hd => first | exact room_d (by assumption) (by decide) | omega | (dsimp only [ktrTop, Around.deeper, Around.in1] at *; omega))
  (case hu => first | exact room_u (by assumption) (by decide) | omega | (dsimp only [ktrTop, Around.deeper, Around.in1] at *; omega))))
local macro_rules | `(tactic| walk_at "call builtin:list.pop") => `(tactic| (k_here; k_dflt (refine' pop0_l ?F ?N ?U ?hz ?_; (case F => k_asm); (case N => k_asm); (case U => k_upd); (case hz => first | assumption | omega)); intro h' F' N'))
local macro_rules | `(tactic| walk_at "mine lenl") => `(tactic| ((with_reducible show wpAny _ _ (call (Value.builtin "len") [Value.ref _]) _ _ _); k_dflt (refine' len_l ?N ?hm ?hz ?_; (case N => k_asm); (case hm => k_mem); (case hz => first | assumption | (simp only [List.length_cons, List.length_nil]; omega) | omega)); intro _ _))
local macro_rules | `(tactic| walk_at "mine upd") => `(tactic| first | exact Upd.head (by first | assumption | (intro _ z; exact nomatch z)) | (refine' Upd.tail ?a ?b; (case a => k_ne); (case b => walk_at "mine upd")) | k_upd)
local macro_rules | `(tactic| walk_at "call builtin:list.append") => `(tactic| (k_here; (with_reducible show wpAny _ _ (call (Value.builtin _) [Value.ref _, _]) _ _ _); k_dflt (refine' append_K ?k1 ?k2 ?k3 ?_ ?z; (case k1 => k_asm); (case k2 => k_asm); (case k3 => walk_at "mine upd"); (case z => (refine Nat.le_trans (m := 1000000) ?_ (by decide); simp only [List.size_toArray]; omega))); intro h' F' N'; (try simp only [List.push_toArray] at N')))
local macro_rules | `(tactic| k_all) => `(tactic| (refine' List.forall_mem_append.mpr ⟨?a, ?b⟩; (case a => k_all); (case b => k_all)))
local macro_rules | `(tactic| k_all) => `(tactic| assumption)
-- PW
section
set_option maxHeartbeats 4000000 in
theorem field_ct (w : World) (d : List UInt8) (tk : Tok) (hsz : d.length < 65536) : Ct w 1 188 [] [.bytes d.toArray tk] (fun r foot' => foot' = [] ∧ ∃ t, r = .bytes (fieldOf d).toArray t) False := by
  refine' ct_def (binds := [("data", .bytes d.toArray tk)]) ?ho ?hcd ?hbind ?hloc ?hcell ?_ ?hco ?hgen ?hk
  walk_at "mine enter"
  intro p loose mean mg mb dp un gd cn cs L a ccd cl outer base g L' s₁ E hck F' N' B' X' T' hd hu hE
  have hin := in2 hsz
  k_steps
  walk_at "mine end"
  rw [ofInts2]
  exact ⟨rfl, _, rfl⟩

set_option maxHeartbeats 4000000 in
theorem written_ct (w : World) (k : Nat) (tk0 : Tok) (d : List UInt8) (tk : Tok) (hk0 : k < 256) (hsz : d.length < 16777000) : Ct w 1 169 [] [.int k tk0, .bytes d.toArray tk] (fun r foot' => foot' = [] ∧ ∃ t, r = .bytes (writtenOf k d).toArray t) False := by
  refine' ct_def (binds := [("kind", .int k tk0), ("body", .bytes d.toArray tk)]) ?ho ?hcd ?hbind ?hloc ?hcell ?_ ?hco ?hgen ?hk
  walk_at "mine enter"
  intro p loose mean mg mb dp un gd cn cs L a ccd cl outer base g L' s₁ E hck F' N' B' X' T' hd hu hE
  have hin := in4 (n := d.length) hk0 (by omega)
  k_steps
  walk_at "mine end"
  rw [ofInts4]
  exact ⟨rfl, _, rfl⟩

local macro_rules | `(tactic| walk_at "setItem ref int int") => `(tactic| (k_here; k_dflt (refine' ba_setItem_N ?F ?N ?U ?h0 ?hk ?hb ?hx0 ?hx ?_; (case F => k_asm); (case N => k_asm); (case U => k_upd); (case h0 => decide); (case hk => (simp only [Array.size_setIfInBounds, Array.size_replicate]; decide)); (case hb => (simp only [Array.size_setIfInBounds, Array.size_replicate]; decide)); (case hx0 => exact fmod_lo _ (by decide)); (case hx => exact fmod_hi _ (by decide)); k_whole); intro h' F' N'))
local macro_rules | `(tactic| walk_at "call type:bytes") => `(tactic| ((with_reducible show wpAny _ _ (call (Value.type "bytes") [Value.ref _]) _ _ _); k_dflt (refine' ba_bytes_N ?N ?hm ?hb ?_; (case N => k_asm); (case hm => k_mem); (case hb => (simp only [Array.size_setIfInBounds, Array.size_replicate]; decide))); intro _ _))
theorem fdiv_fdiv (n : Nat) : ((n : Int).fdiv 256).fdiv 256 = ((n / 65536 : Nat) : Int) := by rw [fdiv_256, fdiv_256]; congr 1; omega

set_option maxHeartbeats 4000000 in
theorem put_whole1 (w : World) (n : Nat) (t u : Tok) (hn : n < 256) : CtC w 1 61 [] [.int n t, .int 1 u] (fun r foot' => foot' = [] ∧ ∃ t', r = .bytes ([n.toUInt8]).toArray t') := by
  refine' ctc_def (binds := [("n", .int n t), ("size", .int 1 u)]) ?ho ?hcd ?hbind ?hloc ?hcell ?_ ?hco ?hgen ?hk
  walk_at "mine enter"
  intro p loose mean mg mb dp un gd cn cs L a ccd cl outer base g L' s₁ E hck F' N' B' X' T' hd hu
  have hz : (n : Int).fdiv (2 ^ (8 * 1 : Int).toNat) = 0 := by
    show (n : Int).fdiv ((256 : Nat) : Int) = 0
    rw [fdiv_nat]; omega
  refine wpC_execs_cons (wpC_of ?_)
  k_steps
  · exact absurd hz (by assumption)
  dsimp only
  refine wpC_execs_cons (wpC_Assign (wpC_Call ?_))
  walk1
  refine wpC_callWith_type (wpC_args_cons (wpC_of ?_))
  walk1
  refine wpC_args_nil ?_
  refine bytearray_call_N (by assumption) (by assumption) (by decide) (by decide) ?_
  intro S h' F' N' lt
  k_steps
  dsimp only
  refine wpC_execs_cons (wpC_of ?_)
  k_steps
  dsimp only
  refine wpC_execs_cons (wpC_of ?_)
  k_steps
  walk_at "mine end"
  refine ⟨rfl, _, congrArg (Value.bytes · _) ?_⟩
  show [((n : Int).fmod 256).toNat.toUInt8].toArray = _
  rw [fmod_256, Int.toNat_natCast, Nat.mod_eq_of_lt hn]

set_option maxHeartbeats 4000000 in
theorem put_whole2 (w : World) (n : Nat) (t u : Tok) (hn : n < 65536) : CtC w 1 61 [] [.int n t, .int 2 u] (fun r foot' => foot' = [] ∧ ∃ t', r = .bytes (be2 n).toArray t') := by
  refine' ctc_def (binds := [("n", .int n t), ("size", .int 2 u)]) ?ho ?hcd ?hbind ?hloc ?hcell ?_ ?hco ?hgen ?hk
  walk_at "mine enter"
  intro p loose mean mg mb dp un gd cn cs L a ccd cl outer base g L' s₁ E hck F' N' B' X' T' hd hu
  have hz : (n : Int).fdiv (2 ^ (8 * 2 : Int).toNat) = 0 := by
    show (n : Int).fdiv ((65536 : Nat) : Int) = 0
    rw [fdiv_nat]; omega
  refine wpC_execs_cons (wpC_of ?_)
  k_steps
  · exact absurd hz (by assumption)
  dsimp only
  refine wpC_execs_cons (wpC_Assign (wpC_Call ?_))
  walk1
  refine wpC_callWith_type (wpC_args_cons (wpC_of ?_))
  walk1
  refine wpC_args_nil ?_
  refine bytearray_call_N (by assumption) (by assumption) (by decide) (by decide) ?_
  intro S h' F' N' lt
  k_steps
  dsimp only
  refine wpC_execs_cons (wpC_of ?_)
  k_steps
  dsimp only
  refine wpC_execs_cons (wpC_of ?_)
  k_steps
  walk_at "mine end"
  refine ⟨rfl, _, congrArg (Value.bytes · _) ?_⟩
  show [(((n : Int).fdiv 256).fmod 256).toNat.toUInt8, ((n : Int).fmod 256).toNat.toUInt8].toArray = _
  rw [fdiv_256, fmod_256, fmod_256, Int.toNat_natCast, Int.toNat_natCast, Nat.mod_eq_of_lt (by omega : n / 256 < 256)]
  rfl

set_option maxHeartbeats 4000000 in
theorem put_whole3 (w : World) (n : Nat) (t u : Tok) (hn : n < 16777216) : CtC w 1 61 [] [.int n t, .int 3 u] (fun r foot' => foot' = [] ∧ ∃ t', r = .bytes (be3 n).toArray t') := by
  refine' ctc_def (binds := [("n", .int n t), ("size", .int 3 u)]) ?ho ?hcd ?hbind ?hloc ?hcell ?_ ?hco ?hgen ?hk
  walk_at "mine enter"
  intro p loose mean mg mb dp un gd cn cs L a ccd cl outer base g L' s₁ E hck F' N' B' X' T' hd hu
  have hz : (n : Int).fdiv (2 ^ (8 * 3 : Int).toNat) = 0 := by
    show (n : Int).fdiv ((16777216 : Nat) : Int) = 0
    rw [fdiv_nat]; omega
  refine wpC_execs_cons (wpC_of ?_)
  k_steps
  · exact absurd hz (by assumption)
  dsimp only
  refine wpC_execs_cons (wpC_Assign (wpC_Call ?_))
  walk1
  refine wpC_callWith_type (wpC_args_cons (wpC_of ?_))
  walk1
  refine wpC_args_nil ?_
  refine bytearray_call_N (by assumption) (by assumption) (by decide) (by decide) ?_
  intro S h' F' N' lt
  k_steps
  dsimp only
  refine wpC_execs_cons (wpC_of ?_)
  k_steps
  dsimp only
  refine wpC_execs_cons (wpC_of ?_)
  k_steps
  walk_at "mine end"
  refine ⟨rfl, _, congrArg (Value.bytes · _) ?_⟩
  show [((((n : Int).fdiv 256).fdiv 256).fmod 256).toNat.toUInt8, (((n : Int).fdiv 256).fmod 256).toNat.toUInt8, ((n : Int).fmod 256).toNat.toUInt8].toArray = _
  rw [fdiv_fdiv, fdiv_256, fmod_256, fmod_256, fmod_256, Int.toNat_natCast, Int.toNat_natCast, Int.toNat_natCast, Nat.mod_eq_of_lt (by omega : n / 65536 < 256)]
  rfl
end
-- PF
section
set_option maxHeartbeats 4000000 in
theorem put_field_ct (w : World) (d : List UInt8) (t : Tok) (hn : d.length < 65536) : CtC w 2 96 [] [.bytes d.toArray t] (fun r foot' => foot' = [] ∧ ∃ t', r = .bytes (fieldOf d).toArray t') := by
  refine' ctc_def (binds := [("data", .bytes d.toArray t)]) ?ho ?hcd ?hbind ?hloc ?hcell ?_ ?hco ?hgen ?hk
  walk_at "mine enter"
  intro p loose mean mg mb dp un gd cn cs L a ccd cl outer base g L' s₁ E hck F' N' B' X' T' hd hu
  refine wpC_execs_cons (wpC_Return (wpC_BinOp (wpC_Call ?_)))
  walk1
  refine wpC_callWith (K := htop.heap_1 w.params) (by k_dflt k_is) (wpC_args_cons (wpC_of ?_))
  k_steps
  refine wpC_args_cons (wpC_of ?_)
  walk1
  refine wpC_args_nil ⟨by k_in, ?_⟩
  refine' ctc_use0 (put_whole2 w _ _ _ hn) ?B ?F ?X ?N ?T ?hk ?hd ?hu ?_
  walk_at "mine use"
  intro r h' tk' foot' F' N' ap' hP
  obtain ⟨rfl, t', rfl⟩ := hP
  refine wpC_of ?_
  k_steps
  refine wpC_of ?_
  k_steps
  dsimp only
  walk_at "mine end"
  exact ⟨rfl, _, rfl⟩
end
-- PM
section
set_option maxHeartbeats 4000000 in
theorem put_message_ct (w : World) (k : Nat) (tk0 : Tok) (d : List UInt8) (t : Tok) (hk0 : k < 256) (hn : d.length < 65536) : CtC w 2 82 [] [.int k tk0, .bytes d.toArray t] (fun r foot' => foot' = [] ∧ ∃ t', r = .bytes (writtenOf k d).toArray t') := by
  refine' ctc_def (binds := [("kind", .int k tk0), ("body", .bytes d.toArray t)]) ?ho ?hcd ?hbind ?hloc ?hcell ?_ ?hco ?hgen ?hk
  walk_at "mine enter"
  intro p loose mean mg mb dp un gd cn cs L a ccd cl outer base g L' s₁ E hck F' N' B' X' T' hd hu
  refine wpC_execs_cons (wpC_Return (wpC_BinOp (wpC_BinOp (wpC_Call ?_))))
  walk1
  refine wpC_callWith (K := htop.heap_1 w.params) (by k_dflt k_is) (wpC_args_cons (wpC_of ?_))
  walk1
  refine wpC_args_cons (wpC_of ?_)
  walk1
  refine wpC_args_nil ⟨by k_in, ?_⟩
  refine' ctc_use0 (put_whole1 w _ _ _ hk0) ?B ?F ?X ?N ?T ?hk ?hd ?hu ?_
  walk_at "mine use"
  intro r h' tk' foot' F' N' ap' hP
  obtain ⟨rfl, t', rfl⟩ := hP
  refine wpC_Call ?_
  walk1
  refine wpC_callWith (K := htop.heap_1 w.params) (by k_dflt k_is) (wpC_args_cons (wpC_of ?_))
  k_steps
  refine wpC_args_cons (wpC_of ?_)
  walk1
  refine wpC_args_nil ⟨by k_in, ?_⟩
  refine' ctc_use0 (put_whole3 w _ _ _ (by omega)) ?B ?F ?X ?N ?T ?hk ?hd ?hu ?_
  walk_at "mine use"
  intro r h' tk' foot' F' N' ap' hP
  obtain ⟨rfl, t', rfl⟩ := hP
  refine wpC_of ?_
  k_steps
  refine wpC_of ?_
  k_steps
  refine wpC_of ?_
  k_steps
  dsimp only
  walk_at "mine end"
  exact ⟨rfl, _, rfl⟩
end
-- GW
section
local macro_rules | `(tactic| walk_at "mine pad 0") => `(tactic| skip)
/-- the number that octets write, the greater first -/
noncomputable def valOf (l : List UInt8) : Nat := l.foldl (fun a c => a * 256 + c.toNat) 0
theorem valOf_int (l : List UInt8) : (l.map fun c => ((c.toNat : Nat) : Int)).foldl (fun a k => a * 256 + k) 0 = (valOf l : Int) := by
  unfold valOf
  have : ∀ (l : List UInt8) (a : Nat), (l.map fun c => ((c.toNat : Nat) : Int)).foldl (fun a k => a * 256 + k) (a : Int) = ((l.foldl (fun a c => a * 256 + c.toNat) a : Nat) : Int) := by
    intro l
    induction l with
    | nil => intro a; rfl
    | cons c r ih => intro a; simp only [List.map_cons, List.foldl_cons]; rw [← ih]; push_cast; rfl
  exact this l 0

local macro_rules | `(tactic| walk_at "exec For Name Subscript cons nil") => `(tactic| ((rename Fr _ _ _ _ => lF'); (with_unfolding_all refine' For_invVF lF' ?k1 ?k2 ?_; (case k1 => exact rfl); (case k2 => exact rfl); k_whole)))
local macro_rules | `(tactic| walk_at "pyIter bytes") => `(tactic| ((rename Fr _ _ _ _ => lF'); (rename News _ _ _ _ => lN'); (with_unfolding_all refine' KBw.iterBytes_acc1 (y := Str.ofString "found") (fun a k => a * 256 + k) (KBw.ints_list _) (by rfl) lF' lN' (by rfl) (fun k' t' a' ta' h' tk' own' hmem' hlo' hhi' hoff' F' N' => ?_) (fun u' t' h' tk' F' N' => ?_)); (all_goals (clear lF' lN')); (all_goals (try simp only [List.nil_append, List.cons_append, List.append_nil] at N'))))

set_option maxHeartbeats 4000000 in
theorem get_whole_ct (w : World) (d : List UInt8) (i k : Nat) (t u v : Tok) (hn : d.length ≤ 16777216) (hik : i + k ≤ d.length) :
    Ct w 1 68 [] [.bytes d.toArray t, .int i u, .int k v] (fun r foot' => foot' = [] ∧ ∃ t', r = .int (valOf ((d.drop i).take k)) t') False := by
  refine' ct_def (binds := [("data", .bytes d.toArray t), ("at", .int i u), ("size", .int k v)]) ?ho ?hcd ?hbind ?hloc ?hcell ?_ ?hco ?hgen ?hk
  walk_at "mine enter"
  intro p loose mean mg mb dp un gd cn cs L a ccd cl outer base g L' s₁ E hck F' N' B' X' T' hd hu hE
  k_steps
  dsimp only
  walk_at "mine end"
  rw [valOf_int, cut_ab d (by omega) (by omega)]
  have e1 : ((i : Int) + (k : Int)).toNat - (i : Int).toNat = k := by omega
  rw [e1, Int.toNat_natCast]
  exact ⟨rfl, _, rfl⟩
end
-- TK
section
local macro_rules | `(tactic| walk_at "mine pad 0") => `(tactic| skip)
/-- the box of draws: a list of what is left of the script and a seed -/
noncomputable def boxLed (b l : Addr) (vs : List Value) (sd : Int) (tk : Tok) (n1 n2 : Nat) : Led := [(b, PySem.W.listOf #[.ref l, .int sd tk] n1), (l, PySem.W.listOf vs.toArray n2)]
noncomputable def IsBox (b : Addr) (foot : Led) : Prop := ∃ (l : Addr) (vs : List Value) (xs : List Int) (sd : Int) (tk : Tok) (n1 n2 : Nat), foot = boxLed b l vs sd tk n1 n2 ∧ @LT.lt Nat _ l b ∧ IntsAre vs xs ∧ xs.length ≤ 63 ∧ 0 ≤ sd ∧ sd < 2147483647

local macro_rules | `(tactic| walk_at "call builtin:len") => `(tactic| (walk_at "mine lenl"; (try simp only [List.length_cons])))
theorem IsBox.of {b l : Addr} {vs : List Value} {xs : List Int} {sd : Int} {tk : Tok} {n1 n2 : Nat} (h1 : @LT.lt Nat _ l b) (h2 : IntsAre vs xs) (h3 : xs.length ≤ 63) (h4 : 0 ≤ sd) (h5 : sd < 2147483647) : IsBox b [(b, PySem.W.listOf #[.ref l, .int sd tk] n1), (l, PySem.W.listOf vs.toArray n2)] :=
  ⟨l, vs, xs, sd, tk, n1, n2, rfl, h1, h2, h3, h4, h5⟩
theorem fmod_is {x : Int} {k : Nat} (hk : 0 < k) : ∃ n : Nat, n < k ∧ x.fmod k = n := by
  have h0 := fmod_lo x (n := (k : Int)) (by omega)
  have h1 := fmod_hi x (n := (k : Int)) (by omega)
  exact ⟨(x.fmod k).toNat, by omega, by omega⟩

set_option maxHeartbeats 4000000 in
theorem take_ct (w : World) (b : Addr) (foot : Led) (hb : IsBox b foot) (wide : Nat) (u : Tok) (hw : 0 < wide) :
    Ct w 1 150 foot [.ref b, .int wide u] (fun r foot' => IsBox b foot' ∧ ∃ (n : Nat) (t : Tok), n < wide ∧ r = .int n t) False := by
  obtain ⟨l, vs, xs, sd, tk, n1, n2, rfl, hlb, hi, hlen, hs0, hs1⟩ := hb
  refine' ct_def (binds := [("box", .ref b), ("wide", .int wide u)]) ?ho ?hcd ?hbind ?hloc ?hcell ?_ ?hco ?hgen ?hk
  walk_at "mine enter"
  intro p loose mean mg mb dp un gd cn cs L a ccd cl outer base g L' s₁ E hck F' N' B' X' T' hd hu hE
  unfold boxLed at N'
  have hw' : (wide : Int) ≠ 0 := by omega
  cases hi with
  | nil =>
    k_steps
    dsimp only
    refine ⟨_, _, _, _, rfl, by assumption, by assumption, IsBox.of hlb .nil hlen (fmod_lo _ (by decide)) (fmod_hi _ (by decide)), ?_⟩
    obtain ⟨n, h1, h2⟩ := fmod_is (x := ((sd * 48271 + 11).fmod 2147483647).fdiv 97) hw
    exact ⟨n, _, h1, congrArg (Value.int · _) h2⟩
  | cons i t rest =>
    rename_i vs' xs'
    have hz : vs'.length ≤ 1000000 := by have := rest.length; simp at hlen; omega
    k_steps
    dsimp only
    refine ⟨_, _, _, _, rfl, by assumption, by assumption, IsBox.of hlb rest (by simp at hlen; omega) hs0 hs1, ?_⟩
    obtain ⟨n, h1, h2⟩ := fmod_is (x := i) hw
    exact ⟨n, _, h1, congrArg (Value.int · _) h2⟩
end
-- OC
section
local macro_rules | `(tactic| walk_at "mine pad 0") => `(tactic| skip)
/-! list comprehensions: an invariant for the turns -/
section
variable {prog : Program} {w : World} {A : Around} {h₀ : Heap} {L : Addr} {m : PySem.Str → Option Value} {env : Env} {elt : PySem.Expr} {x : PySem.Str} {scope : Scope} {cl : List (PySem.Str × Addr)} {s : Shared} {S : Led → Prop} {P : Nat → Value → Prop} {Fin : List Value → Led → Prop}

theorem compEnd_mono {s₁ : Shared} {I C D : Addr} {oI oC oD : Obj} {r r' : Value → Led → Prop} {y : Value} {s₂ : Shared} (hr : ∀ y l, r y l → r' y l) (z : LCg.CompEnd h₀ L m s₁ I oI C oC D oD S r y s₂) : LCg.CompEnd h₀ L m s₁ I oI C oC D oD S r' y s₂ := by
  obtain ⟨h', tk, news', e, F, N, off, hS, q⟩ := z
  exact ⟨h', tk, news', e, F, N, off, hS, hr _ _ q⟩

theorem comp_loop {n : Nat} (I : Nat → List Value → Led → Prop) {news : Led} (h0 : I 0 [] news)
    (step : ∀ i ys news, i < n → I i ys news → ∀ v J oJ oC C D m₂ h tk (E' : Value → Shared → Prop), P i v → LCg.NsObj oC m₂ → m₂ x = some v → Fr h₀ L h m → News h₀ L h ((J, oJ) :: (C, oC) :: (D, LCg.lst ys) :: news) → LCg.Off3 J C D news → ((@Ne Nat J C) ∧ (@Ne Nat J D) ∧ (@Ne Nat C D)) →
      wpAny (model prog w) A (eval elt (compEnvC scope cl C env)) (LCg.CompEnd h₀ L m { s with heap := h, toks := tk } J oJ C oC D (LCg.lst ys) S (fun y news' => I (i + 1) (ys ++ [y]) news')) E' { s with heap := h, toks := tk })
    (fin : ∀ ys news, I n ys news → Fin ys news) : LCg.CompRest prog w A h₀ L m env elt x scope cl s S P Fin n 0 [] news := by
  have : ∀ k i ys news, i + k = n → I i ys news → LCg.CompRest prog w A h₀ L m env elt x scope cl s S P Fin k i ys news := by
    intro k
    induction k with
    | zero => intro i ys news e hI; exact LCg.CompRest.zero (fin _ _ (by have : i = n := by omega
                                                                         exact this ▸ hI))
    | succ k ih =>
      intro i ys news e hI
      refine LCg.CompRest.succ fun v J oJ C oC D m₂ h tk E' hP hN hx F N off ne => ?_
      exact wpAny_mono (step i ys news (by omega) hI v J oJ oC C D m₂ h tk E' hP hN hx F N off ne) (fun y s₂ z => compEnd_mono (fun y l q => ih (i + 1) _ l (by omega) q) z) fun _ _ z => z
  exact this n 0 [] news (by omega) h0
end

noncomputable def Halt (P : Prop) : Prop := P
theorem Halt.go {P : Prop} (h : Halt P) : P := h
theorem range_size (n : Nat) : Builtin.Range.rangeSize 0 (n : Int) 1 = ((n : Nat) : Int) := by
  rw [rangeSize_nat]; simp
theorem fits_small {i : Int} (h0 : -1 ≤ i) (h : i ≤ 70000) : Builtin.Range.rangeFitsLong i = true := by
  unfold Builtin.Range.rangeFitsLong
  simp only [Bool.and_eq_true, decide_eq_true_eq]
  omega
theorem range_small {n : Nat} (h : n ≤ 256) : Builtin.Range.small 0 (n : Int) 1 = true := by
  have e1 : Builtin.Range.rangeFitsLong (n : Int) = true := fits_small (by omega) (by omega)
  have e2 : Builtin.Range.rangeFitsLong ((n : Int) + (1 - 1)) = true := fits_small (by omega) (by omega)
  have e3 : Builtin.Range.rangeFitsLong (0 : Int) = true := fits_small (by omega) (by omega)
  have e4 : Builtin.Range.rangeFitsLong (1 : Int) = true := fits_small (by omega) (by omega)
  unfold Builtin.Range.small
  rw [range_size, e1, e2, e3, e4]
  simp
theorem sub4 {α : Type} {f : List α} {a b c d : α} : ∀ p ∈ f ++ [a, b, c, d], p ∈ a :: b :: c :: ([d] ++ f) := by
  intro p hp
  grind
theorem sub5 {α : Type} {f : List α} {a b c d : α} : ∀ p ∈ a :: b :: c :: ([d] ++ f), p ∈ f ++ [a, b, c, d] := by
  intro p hp
  grind
theorem ct_useF {w : World} {D : Nat} {f : Addr} {vs : List Value} {Post : Value → Led → Prop} {foot rest : Led} (C : Ct w D f foot vs Post False) {p : Program} {loose : List PySem.Str} {mean : ExcName → Option Value} {mg mb : PySem.Str → Option Value} {dp un : Nat} {gd : Option (List Code)} {cn : PySem.Str} {cs : Scope} {a : Addr} {ccd : Value} {cl : List (PySem.Str × Addr)} {outer : List Env}
    {A₀ : Around} {base h₀ : Heap} {L : Addr} {m : PySem.Str → Option Value} {news : Led} {s : Shared} {Q E : Value → Shared → Prop}
    (sub : ∀ p ∈ foot ++ rest, p ∈ news) (ap : Apart foot rest)
    (B : Below A₀ base outer h₀) (F : Fr h₀ L s.heap m) (X : (htop.heap_1 w.params).In h₀) (N : News h₀ L s.heap news) (T : Top p loose mean mg mb h₀) (hk : cs.kind = .function) (hd : dp + D < recursionLimit) (hu : un + 40 * D < cLine)
    (h : ∀ r h' tk' foot', Fr h₀ L h' m → News h₀ L h' (foot' ++ rest) → Apart foot' rest → Post r foot' → Q r { s with heap := h', toks := tk' }) :
    wpAny (model PR w) (ktrTop dp un gd cn cs L a ccd cl outer) (call (.ref f) vs) Q E s :=
  C p loose mean mg mb dp un gd cn cs a ccd cl outer A₀ base h₀ L m rest s Q E B F X (fun p hp => N p (sub p hp)) ap T hk hd hu h (fun z => nomatch z)
theorem apart_of {foot rest : Led} (h : ∀ p ∈ foot, ∀ q ∈ rest, p.1 ≠ q.1) : Apart foot rest := h
theorem apart_one {foot : Led} {a : Addr} {o : Obj} (h : ∀ p ∈ foot, p.1 ≠ a) : Apart foot [(a, o)] := fun p hp q hq => by
  rw [List.mem_singleton.mp hq]; exact h p hp
theorem news_swap {h₀ h : Heap} {L : Addr} {a b : Led} (N : News h₀ L h (a ++ b)) : News h₀ L h (b ++ a) := fun p hp => N p (by
  rcases List.mem_append.mp hp with hp | hp
  · exact List.mem_append_right _ hp
  · exact List.mem_append_left _ hp)
theorem sub_swap {α : Type} {f r : List α} : ∀ p ∈ f ++ r, p ∈ r ++ f := by
  intro p hp
  rcases List.mem_append.mp hp with hp | hp
  · exact List.mem_append_right _ hp
  · exact List.mem_append_left _ hp
/-- none of these stands at one of those addresses -/
noncomputable def ApartA (foot : Led) (as : List Addr) : Prop := ∀ p ∈ foot, ∀ a ∈ as, p.1 ≠ a
theorem ApartA.to {foot rest : Led} {as : List Addr} (h : ApartA foot as) (e : rest.map (·.1) = as) : Apart foot rest := fun p hp q hq => h p hp q.1 (e ▸ List.mem_map_of_mem hq)
theorem ApartA.of {foot rest : Led} {as : List Addr} (h : Apart foot rest) (e : rest.map (·.1) = as) : ApartA foot as := fun p hp a ha => by
  rw [← e] at ha
  obtain ⟨q, hq, rfl⟩ := List.mem_map.mp ha
  exact h p hp q hq
theorem ApartA.at {foot : Led} {as : List Addr} (h : ApartA foot as) {a : Addr} (ha : a ∈ as) : ∀ p ∈ foot, p.1 ≠ a := fun p hp => h p hp a ha

local macro_rules | `(tactic| walk_at "call ref") => `(tactic| ((with_reducible show wpAny _ _ (call (Value.ref _) _) _ _ _); refine Halt.go ?_))
local macro_rules | `(tactic| walk_at "CompSrc") => `(tactic| (refine Halt.go ?_))

set_option maxHeartbeats 1000000 in
theorem octets_ct (w : World) (b : Addr) (foot : Led) (hb : IsBox b foot) (many : Nat) (u : Tok) (hw : many ≤ 256) :
    Ct w 2 155 foot [.ref b, .int many u] (fun r foot' => IsBox b foot' ∧ ∃ (l : List UInt8) (t : Tok), l.length = many ∧ r = .bytes l.toArray t) False := by
  refine' ct_defC (binds := [("box", .ref b), ("many", .int many u)]) ?ho ?hcd ?hbind ?hkind ?hnd ?_ ?hco ?hgen ?hk
  case ho => k_dflt k_is
  case hcd => k_dflt k_is
  case hbind => with_unfolding_all rfl
  case hkind => rfl
  case hnd => decide
  case hco => rfl
  case hgen => rfl
  case hk => rfl
  intro p loose mean mg mb dp un gd cn cs L a ccd cl outer base g L' s₁ E cells hck Z B' X' T' hd hu hE
  obtain ⟨F', N', are, low⟩ := Z
  obtain ⟨oc, rfl, hoc⟩ := CellsAre.one (n := "box") are
  have hoc' : oc.data = .cell (some (.ref b)) := hoc
  clear hoc are
  have hne : ∀ p ∈ foot, p.1 ≠ L' + 1 := fun p hp => Nat.ne_of_lt (Nat.lt_succ_of_lt (low p hp))
  k_steps
  unfold Halt
  refine LCg.CompSrc.range (n := many) (by rfl) (by assumption) (by assumption) (by assumption) ?hsm ?hrs ?hsz fun g' => ?_
  case hsm => exact range_small hw
  case hrs => exact range_size many
  case hsz => exact Nat.le_trans hw (by decide)
  refine comp_loop (fun i ys news => ∃ (foot' : Led) (xs : List Int), news = [(L' + 1, oc)] ++ foot' ∧ IsBox b foot' ∧ (∀ p ∈ foot', p.1 ≠ L' + 1) ∧ IntsAre ys xs ∧ KBa.In xs ∧ xs.length = i) ⟨foot, [], rfl, hb, hne, .nil, fun _ h => (nomatch h), rfl⟩ ?step ?fin
  case step =>
    intro i ys news hi hI v J oJ oC C D m₂ h tk E' hP hN hx F'' N'' off ne
    obtain ⟨foot', xs, rfl, hb', hne', hi', hin, hlen⟩ := hI
    k_steps
    unfold Halt
    try dsimp only
    have off2 := LCg.Off3.mem off
    refine' ct_useF (rest := [(J, oJ), (C, oC), (D, LCg.lst ys), (L' + 1, oc)]) (take_ct w b foot' hb' 256 _ (by decide)) ?sub ?ap ?B ?F ?X ?N ?T ?hk ?hd ?hu ?_
    case sub => exact sub4
    case ap =>
      intro p hp q hq
      have := off2 p (List.mem_append_right _ hp)
      have := hne' p hp
      simp only [List.mem_cons, List.not_mem_nil, or_false] at hq
      rcases hq with rfl | rfl | rfl | rfl <;> simp_all
    walk_at "mine use"
    intro r h' tk' foot'' F3 N3 ap3 hP3
    obtain ⟨hb3, n, t, hn, rfl⟩ := hP3
    have hne3 : ∀ p ∈ foot'', p.1 ≠ L' + 1 := fun p hp => ap3 p hp (L' + 1, oc) (List.mem_cons_of_mem _ (List.mem_cons_of_mem _ (List.mem_cons_of_mem _ List.mem_cons_self)))
    have off3 : LCg.Off3 J C D ([(L' + 1, oc)] ++ foot'') := LCg.Off3.of fun p hp => by
      rcases List.mem_append.mp hp with hp | hp
      · rw [List.mem_singleton.mp hp]
        exact off2 (L' + 1, oc) List.mem_cons_self
      · exact ⟨ap3 p hp (J, oJ) List.mem_cons_self, ap3 p hp (C, oC) (List.mem_cons_of_mem _ List.mem_cons_self), ap3 p hp (D, LCg.lst ys) (List.mem_cons_of_mem _ (List.mem_cons_of_mem _ List.mem_cons_self))⟩
    refine LCg.CompEnd.intro F3 N3 ([(L' + 1, oc)] ++ foot'') sub5 off3 trivial ⟨foot'', xs ++ [(n : Int)], rfl, hb3, hne3, hi'.append (.cons _ _ .nil), ?_, by simp [hlen]⟩
    intro k hk
    rcases List.mem_append.mp hk with hk | hk
    · exact hin k hk
    · rw [List.mem_singleton.mp hk]; omega
  case fin =>
    intro ys news hI
    obtain ⟨foot', xs, rfl, hb', hne', hi', hin, hlen⟩ := hI
    intro D h tk F'' N'' off
    dsimp only
    k_steps
    with_reducible rename News _ _ _ _ => N2
    refine ⟨_, _, _, foot', rfl, by assumption, fun p hp => N2 p (by simp [hp]), hb', ofInts xs, _, ?_, rfl⟩
    rw [ofInts_length, hlen]
end
-- EX
section
/-! QuicError: its class, its own __init__, what a store into a new object does -/
theorem ns_in {K : Frag} {h : Heap} {N : Addr} {mg : PySem.Str → Option Value} {n : PySem.Str} {v : Value} (X : K.In h) (G : h.Ns N mg) (e : nsIn K N n = some (some v)) : mg n = some v := by
  obtain ⟨o, es, ep, ho, hd, _, hf⟩ := G
  unfold nsIn at e
  split at e
  · rename_i c d es' n' sl q
    have q' := X _ _ q
    rw [ho] at q'
    cases q'
    cases hd
    split at e
    · rename_i en he
      cases e
      rw [← hf]
      unfold nsFind findBy
      rw [← Array.find?_toList, he]
      rfl
    · split at e <;> cases e
  · cases e

theorem nsOk_of {K : Frag} {N : Addr} {c : Value} {dd : Option Addr} {es : Array DictEntry} {n : Nat} {sl : Array (Option Value)} (e : K.lookup N = some ⟨c, dd, .dict es n, sl⟩) (h : (es.all fun e => match e.key with | .str _ _ => true | _ => false) = true) : nsOkIn K N = true := by
  unfold nsOkIn
  rw [e]
  exact h
/-- what the heap says of the class QuicError -/
structure QCls (h : Heap) (mN : PySem.Str → Option Value) : Prop where
  cls : ∃ nm q bs sn sub ab col dd k0 k1 k2 k3 k5, h.get? 31 = some (excClassObj nm q 31 30 bs [.type "Exception", .type "BaseException", .type "object"] true sn sub ab col dd k0 k1 k2 k3 k5 "Exception.__new__")
  ns : h.Ns 30 mN
  init : mN "__init__" = some (.ref 28)
  sa : mN "__setattr__" = none
  ga : mN "__getattribute__" = none
  gh : mN "__getattr__" = none
  code : mN "code" = none
  ft : mN "frame_type" = none
  text : mN "text" = none
theorem QCls.keeps {h h' : Heap} {mN : PySem.Str → Option Value} (X : QCls h mN) (k : ∀ b o, h.get? b = some o → h'.get? b = some o) : QCls h' mN :=
  ⟨(let ⟨nm, q, bs, sn, sub, ab, col, dd, k0, k1, k2, k3, k5, e⟩ := X.cls; ⟨nm, q, bs, sn, sub, ab, col, dd, k0, k1, k2, k3, k5, k _ _ e⟩), X.ns.keeps k, X.init, X.sa, X.ga, X.gh, X.code, X.ft, X.text⟩
theorem qcls_of {w : World} {h : Heap} (X : (htop.heap_1 w.params).In h) : ∃ mN, QCls h mN := by
  have e30 : nsOkIn (htop.heap_1 w.params) 30 = true := nsOk_of (by k_dflt k_is) (by rw [← Array.all_toList]; rfl)
  have G : h.Ns 30 (h.nsMap 30) := .of_isNs (isNs_of_in X e30)
  refine ⟨_, ⟨_, _, _, _, _, _, _, _, _, _, _, _, _, X _ _ (by k_dflt k_is)⟩, G, ns_in X G (by k_dflt k_is), ns_none_of X G (by k_dflt k_is), ns_none_of X G (by k_dflt k_is), ns_none_of X G (by k_dflt k_is), ns_none_of X G (by k_dflt k_is), ns_none_of X G (by k_dflt k_is), ns_none_of X G (by k_dflt k_is)⟩
theorem tl_code : typeLookup (.type "Exception") "code" = pure none := by rw [typeLookup_type, builtinLookup_eq_fast]; kernel_rfl
theorem tl_ft : typeLookup (.type "Exception") "frame_type" = pure none := by rw [typeLookup_type, builtinLookup_eq_fast]; kernel_rfl
theorem tl_text : typeLookup (.type "Exception") "text" = pure none := by rw [typeLookup_type, builtinLookup_eq_fast]; kernel_rfl

section
variable {prog : Program} {w : World} {A : Around} {E : Value → Shared → Prop} {h : Heap} {g : Array GenState} {d : Drawn} {t : Nat} {os : OsState} {mN : PySem.Str → Option Value} {x : Addr} {name : PySem.Str} {v : Value} {o : Obj}

theorem q_init {Q : Value → Shared → Prop} {t0 : Value} {rest : List Value} (X : QCls h mN) (hx : h.get? x = some { cls := .ref 31, data := .fields #[t0, .none, .none, .none, .bool false, .none] })
    (hq : ∀ h', (∀ b ob, b ≠ x → h.get? b = some ob → h'.get? b = some ob) → h'.get? x = some { cls := .ref 31, data := .fields #[.ref h.objs.size, .none, .none, .none, .bool false, .none] } → Q .none ⟨h', g, d, t, os⟩) (hrest : rest.length ≤ sizeLine := by size_fits) :
    wpAny (model prog w) A (call (.builtin "Exception.__init__") (.ref x :: rest)) Q E ⟨h, g, d, t, os⟩ := by
  have F := PySem.F.excBase_Exception
  obtain ⟨nm, q, bs, sn, sub, ab, col, dd, k0, k1, k2, k3, k5, hC⟩ := X.cls
  refine wpAny_call (codeAny_call_builtin F.init.plain F.initEntry (wpAny_check_init_subT F (.base) hC hx rfl ?_))
  have hne : x ≠ h.objs.size := Nat.ne_of_lt (Heap.lt_size hx)
  unfold PySem.Builtin.«BaseException.__init__» PySem.Builtin.BaseException.bexcPut
  have hx₁ := Heap.get?_push_of_some (h := h) { cls := .type "tuple", data := .seq rest.toArray } hx
  refine wpAny_bind (wpAny_newTuple (wpAny_bind ?_) hrest)
  refine wpAny_bind (wpAny_field hx₁ rfl (x := t0) rfl ?_)
  refine wpAny_bind (wpAny_setField hx₁ rfl (Nat.lt_of_lt_of_le (by decide : 0 < 6) (Nat.le_refl 6)) ?_)
  have fin : Q .none ⟨(h.push { cls := .type "tuple", data := .seq rest.toArray }).update x (Obj.mapFields (·.setIfInBounds 0 (.ref h.objs.size))), g, d, t, os⟩ := by
    refine hq _ (fun b ob hb e => ?_) ?_
    · rw [Heap.get?_update_other _ _ (Ne.symm hb)]
      exact Heap.get?_push_of_some _ e
    · rw [Heap.get?_update_self _ hx₁ rfl]
      rfl
  cases t0 <;> first | exact wpAny_letGo (wpAny_pure fin) | exact wpAny_pure (wpAny_pure fin)

theorem q_store_entry {tk : Tok} {Q : Fin → Shared → Prop} (X : QCls h mN) (hna : mN name = none) (hB : typeLookup (.type "Exception") name = pure none) (hx : h.get? x = some o) (hc : o.cls = .ref 31) (hnc : ∀ c, o.data ≠ .cls c) (hdn : o.dict = none)
    (hq : ∀ h' tk', h'.get? x = some { o with dict := some h.objs.size } → h'.Ns1 h.objs.size (fun y => if y = name then some v else none) → (∀ b ob, b ≠ x → h.get? b = some ob → h'.get? b = some ob) → Q (.done (.ret .none)) ⟨h', g, d, tk', os⟩) :
    wpAny (model prog w) A (Builtin.«object.__setattr__» ⟨[.ref x, .str name tk, v], []⟩) Q E ⟨h, g, d, t, os⟩ := by
  obtain ⟨nm, q, bs, sn, sub, ab, col, dd, k0, k1, k2, k3, k5, hC⟩ := X.cls
  have hn := X.ns
  have SF := PySem.F.store_Exception
  have hpass := SF.passes (.ref x)
  unfold Builtin.«object.__setattr__»
  repeat (first | rw [refuse_eq] | (rw [refuseLoop_ref, hpass]) | (with_reducible refine wpAny_loadPart_at hx ?_; rw [hc]) | with_reducible refine wpAny_mroOf_exc hC ?_ | (with_reducible refine wpAny_typeLookup_exc hC hn SF.mro hB ?_; rw [hna]) | wp_step)
  rw [hdn, if_neg (by simp [typeHasDict])]
  have hx₁ : (h.push { cls := .type "dict", data := .dict #[] }).get? x = some o := Heap.get?_push_of_some _ hx
  have hxs : x ≠ h.objs.size := Nat.ne_of_lt (Heap.lt_size hx)
  split
  · rename_i hcd
    cases hcd
  split
  · rename_i c hcd
    exact absurd hcd (hnc c)
  · skip
    refine wpAny_bind (wpAny_alloc' ?_)
    refine wpAny_bind (wpAny_update' hx₁ ?_)
    refine wpAny_pure ?_
    have hgd : ((h.push { cls := .type "dict", data := .dict #[] }).update x fun o => { cls := o.cls, dict := some h.objs.size, data := o.data, slots := o.slots }).get? h.objs.size
        = some { cls := .type "dict", data := .dict #[] } :=
      (Heap.get?_update_ne _ _ _ _ hxs.symm).trans (Heap.get?_push_at rfl rfl)
    have hnd : ((h.push { cls := .type "dict", data := .dict #[] }).update x fun o => { cls := o.cls, dict := some h.objs.size, data := o.data, slots := o.slots }).Ns h.objs.size (fun _ => none) :=
      ⟨_, #[], _, hgd, rfl, fun e he => absurd he (by simp), fun _ => rfl⟩
    show wpAny _ _ (Builtin.ObjectAttr.storeInDict h.objs.size (.str name tk) name v) _ _ _
    unfold Builtin.ObjectAttr.storeInDict Builtin.ObjectAttr.newKeyGuard
    refine wpAny_bind (wpAny_pure (wpAny_bind (wpAny_nsSet1 (Heap.Ns1.of_empty hnd) fun h' hn' hs => ?_)))
    obtain ⟨oD, esD, epD, hoD, hdD, hcD⟩ := hn'.count (Within.cons name v Within.nil)
    refine wpAny_bind (wpAny_lookBehind hoD (by rw [hdD]; exact pastItsLine_dict (Nat.le_trans hcD (by rw [List.length_cons, List.length_nil, sizeLine_eq]; omega))) ?_)
    wp_walk
    have hfr : ({ o with dict := some h.objs.size } : Obj).isFreed = false := by
      have hfr := (Heap.get?_some_iff.mp hx).2
      obtain ⟨oc, od, odt, osl⟩ := o
      cases odt <;> first | rfl | exact hfr
    exact hq h' _ ((hs.2 x hxs).trans (Heap.get?_update_self _ hx₁ hfr)) hn' fun b ob hbx hb => (hs.2 b (Nat.ne_of_lt (Heap.lt_size hb))).trans ((Heap.get?_update_ne _ _ _ _ hbx).trans (Heap.get?_push_of_some _ hb))

theorem q_check {M : Model} {nameV : Value} {Q : Unit → Shared → Prop} (X : QCls h mN) (hx : h.get? x = some o) (hc : o.cls = .ref 31) (hq : Q () ⟨h, g, d, t, os⟩) :
    wpAny M A (checkBuiltinCall "object.__setattr__" ⟨[.ref x, nameV, v], []⟩) Q E ⟨h, g, d, t, os⟩ :=
by
  obtain ⟨nm, q, bs, sn, sub, ab, col, dd, k0, k1, k2, k3, k5, hC⟩ := X.cls
  have SF := PySem.F.store_Exception
  exact @wpAny_check_sa A E h g d t os nm q 31 30 x bs _ sn sub ab col dd k0 k1 k2 k3 k5 "Exception" "Exception.__new__" _ _ v M o nameV Q SF hC hx hc hq
theorem q_store_call {tk : Tok} {R : Result → Shared → Prop} (X : QCls h mN) (hna : mN name = none) (hB : typeLookup (.type "Exception") name = pure none) (hx : h.get? x = some o) (hc : o.cls = .ref 31) (hnc : ∀ c, o.data ≠ .cls c) (hdn : o.dict = none)
    (hq : ∀ h' tk', h'.get? x = some { o with dict := some h.objs.size } → h'.Ns1 h.objs.size (fun y => if y = name then some v else none) → (∀ b ob, b ≠ x → h.get? b = some ob → h'.get? b = some ob) → R (.ok (.ret .none)) ⟨h', g, d, tk', os⟩) :
    codeAny (model prog w) A (.call (.builtin "object.__setattr__") ⟨[.ref x, .str name tk, v], []⟩) R ⟨h, g, d, t, os⟩ := by
  refine codeAny_call_builtin PySem.F.store_Exception.slot.plain PySem.F.store_Exception.entry ?_
  refine q_check X hx hc ?_
  refine q_store_entry X hna hB hx hc hnc hdn fun h' tk' h1 h2 h3 => ?_
  exact hq h' tk' h1 h2 h3

theorem q_store {Q : Unit → Shared → Prop} (X : QCls h mN) (hna : mN name = none) (hB : typeLookup (.type "Exception") name = pure none) (hx : h.get? x = some o) (hc : o.cls = .ref 31) (hnc : ∀ c, o.data ≠ .cls c) (hdn : o.dict = none)
    (hq : ∀ h' tk', h'.get? x = some { o with dict := some h.objs.size } → h'.Ns1 h.objs.size (fun y => if y = name then some v else none) → (∀ b ob, b ≠ x → h.get? b = some ob → h'.get? b = some ob) → Q () ⟨h', g, d, tk', os⟩) :
    wpAny (model prog w) A (setAttr (.ref x) name v) Q E ⟨h, g, d, t, os⟩ := by
  obtain ⟨nm, q, bs, sn, sub, ab, col, dd, k0, k1, k2, k3, k5, hC⟩ := X.cls
  unfold setAttr callSpecial? specialOf
  refine wpAny_bind (wpAny_mkText (wpAny_bind (wpAny_bind (wpAny_bind ?_))))
  unfold typeOf
  dsimp only
  refine wpAny_bind (wpAny_loadPart_at hx ?_)
  rw [hc]
  refine wpAny_pure ?_
  refine wpAny_typeLookup_exc hC X.ns PySem.F.store_Exception.mro PySem.F.store_Exception.slot.lookup ?_
  rw [X.sa]
  dsimp only
  refine wpAny_holding ?_
  rw [PySem.F.store_Exception.slot.bind (.ref x)]
  refine wpAny_bind (wpAny_pure (wpAny_bind (wpAny_call ?_)))
  exact q_store_call X hna hB hx hc hnc hdn fun h' tk' h1 h2 h3 => wpAny_pure (wpAny_pure (hq h' tk' h1 h2 h3))
end
section
variable {prog : Program} {w : World} {A : Around} {E : Value → Shared → Prop} {h : Heap} {g : Array GenState} {d : Drawn} {t : Nat} {os : OsState} {mN : PySem.Str → Option Value} {x : Addr} {name : PySem.Str} {v : Value} {o : Obj}

theorem q_store2 {Q : Unit → Shared → Prop} {mA : PySem.Str → Option Value} {ns : List PySem.Str} {dx : Addr} (X : QCls h mN) (hna : mN name = none) (hB : typeLookup (.type "Exception") name = pure none) (hx : h.get? x = some o) (hc : o.cls = .ref 31) (hnc : ∀ c, o.data ≠ .cls c) (hd : o.dict = some dx) (hne : dx ≠ x) (hn : h.Ns1 dx mA) (hxC : x ≠ 31)
    (hw : Within mA ns) (hsz : ns.length ≤ 100)
    (hq : ∀ h' tk', h'.get? x = some o → h'.Ns1 dx (fun y => if y = name then some v else mA y) → (∀ b ob, b ≠ x → b ≠ dx → h.get? b = some ob → h'.get? b = some ob) → Q () ⟨h', g, d, tk', os⟩) :
    wpAny (model prog w) A (setAttr (.ref x) name v) Q E ⟨h, g, d, t, os⟩ := by
  obtain ⟨nm, q, bs, sn, sub, ab, col, dd, k0, k1, k2, k3, k5, hC⟩ := X.cls
  refine @store_attr prog w A E h g d t os nm q 31 30 x bs _ sn sub ab col dd k0 k1 k2 k3 k5 "Exception" "Exception.__new__" _ _ mN mA name v Q ns PySem.F.store_Exception hC X.ns X.sa hna hB hxC ⟨o, hx, hc, hnc, .inr ⟨dx, hd, hne, hn⟩⟩ (fun h' tk' I k same => ?_) hw (Nat.le_trans hsz (by decide))
  obtain ⟨o₁, h1, e1, e2, e3, e4⟩ := same o hx
  have e4' := e4 dx hd
  have eo : o₁ = o := by
    obtain ⟨c, dd', dt, sl⟩ := o
    obtain ⟨c', dd'', dt', sl'⟩ := o₁
    simp only at e1 e2 e3 e4' hd
    rw [e1, e2, e3, e4', hd]
  subst eo
  refine hq h' tk' h1 ?_ fun b ob hb hbd e => k b ob hb (fun o₀ dx' q q' => ?_) e
  · obtain ⟨o₂, q2, _, _, q3⟩ := I
    rw [h1] at q2
    cases q2
    rcases q3 with ⟨q3, _⟩ | ⟨d2, q3, _, q4⟩
    · rw [e4'] at q3; cases q3
    · rw [e4'] at q3
      cases q3
      exact q4
  · rw [hx] at q
    cases q
    rw [hd] at q'
    cases q'
    exact hbd
end
end
-- LV
section
/-! an exception leaves a frame: all that stands, told to the sign -/
section
variable {M : Model} {A : Around} {E : Value → Shared → Prop} {s : Shared}

/-- what stands when the exception e has left a frame: T is its new entry -/
structure LeftNow (fs : List Addr) (h h' : Heap) (e T : Addr) (oe : Obj) (old : Value) : Prop where
  other : ∀ b o, h.get? b = some o → b ≠ e → old ≠ .ref b → b ∉ fs → h'.get? b = some o
  frame : ∀ b o, h.get? b = some o → b ∈ fs → ∃ sl, h'.get? b = some { o with slots := sl }
  at_ : h'.get? e = some (oe.mapFields (·.setIfInBounds 1 (.ref T)))
  ne : T ≠ e
  fresh : h.get? T = none
  entry : ∃ oT ts, h'.get? T = some oT ∧ oT.data = .fields ts ∧ ts[3]? = some .none

theorem my_entry {base : Heap} {env : Env} {outer : List Env} {L e : Addr} {oe : Obj} {vs : Array Value} {head : Value} {hadNext : Bool} {Q : Unit → Shared → Prop}
    (hfr : A.frames = some (env :: outer)) (hl : s.heap.FunFrames base (env :: outer)) (hf : env.frame = some L)
    (he : s.heap.get? e = some oe) (hd : oe.data = .fields vs) (hsz : 1 < vs.size)
    (h : ∀ h' T, LeftNow ((env :: outer).filterMap (·.frame)) s.heap h' e T oe .none → Q () { s with heap := h' }) :
    wpAny M A (do let a ← frameOf env; let pl ← entryPlaceOf L hadNext; let b ← EntryCells.newEntry head a .none (rawInt L) .none pl; setField (.ref e) 1 b) (fun _ s' => wpAny M A (setFlight (.ref e) none) Q E s') E s := by
  have hene : e ∉ (env :: outer).filterMap (·.frame) := fun hm => by
    obtain ⟨_, o, ho, hnf⟩ := hl.mem hm
    rw [he] at ho; injection ho with ho; subst ho; exact hnf vs hd
  refine wpAny_bind (wpAny_frameOf_fun hfr hl hf fun h₁ hs₁ => ?_)
  refine wpAny_bind (wpAny_entryPlaceOf fun pl hpl => ?_)
  unfold EntryCells.newEntry newFields
  have he₁ : h₁.get? e = some oe := (hs₁.2.1 e hene).trans he
  generalize hob : ({ cls := .type "traceback", dict := none, data := .fields ([head, .ref L, .none, rawInt L, .none] ++ (if pl.isEmpty then List.replicate 6 Value.none else pl)).toArray } : Obj) = oT
  refine wpAny_bind (wpAny_newObj_type ?_ (hpl.sizeOk5 _ _ _ _ _))
  rw [hob]
  have he₂ := Heap.get?_push_of_some (h := h₁) oT he₁
  refine wpAny_setField he₂ hd hsz ?_
  have hTe : h₁.objs.size ≠ e := Nat.ne_of_gt (Heap.lt_size he₁)
  have hd₃ := Obj.data_mapFields hd (·.setIfInBounds 1 (Value.ref h₁.objs.size))
  have he₃ := Heap.get?_update_self (Obj.mapFields (·.setIfInBounds 1 (Value.ref h₁.objs.size))) he₂ (Obj.isFreed_of_fields hd₃)
  have hTd : oT.data = .fields ([head, .ref L, .none, rawInt L, .none] ++ (if pl.isEmpty then List.replicate 6 Value.none else pl)).toArray := by rw [← hob]
  have hT₂ : (h₁.push oT).get? h₁.objs.size = some oT := Heap.get?_push_size h₁ (Obj.isFreed_of_fields hTd)
  have hT₃ := (Heap.get?_update_other (h₁.push oT) (Obj.mapFields (·.setIfInBounds 1 (Value.ref h₁.objs.size))) (Ne.symm hTe)).trans hT₂
  unfold setFlight
  refine wpAny_bind (wpAny_field he₃ hd₃ (x := .ref h₁.objs.size) (by simp [hsz]) ?_)
  rw [if_pos (show (Value.ref h₁.objs.size != Value.none) = true from by simp)]
  refine wpAny_setField hT₃ hTd (by simp only [List.size_toArray, List.length_append, List.length_cons, List.length_nil] <;> omega) (h _ h₁.objs.size ?_)
  have keep : ∀ b o, b ≠ e → h₁.get? b = some o →
      (((h₁.push oT).update e (Obj.mapFields (·.setIfInBounds 1 (Value.ref h₁.objs.size)))).update h₁.objs.size
        (Obj.mapFields (·.setIfInBounds 3 ((none : Option Addr).elim Value.none fun f => rawInt f)))).get? b = some o := fun b o hbe hb => by
    have hbT : h₁.objs.size ≠ b := Nat.ne_of_gt (Heap.lt_size hb)
    rw [Heap.get?_update_other _ _ hbT, Heap.get?_update_other _ _ (Ne.symm hbe)]
    exact Heap.get?_push_of_some _ hb
  refine ⟨fun b o hb hbe _ hbf => keep b o hbe ((hs₁.2.1 b hbf).trans hb), fun b o hb hbf => ?_, ?_, hTe, ?_, ?_⟩
  · obtain ⟨sl, hsl⟩ := hs₁.2.2 b o hb
    refine ⟨sl, keep b _ (fun q => hene (q ▸ hbf)) hsl⟩
  · rw [Heap.get?_update_other _ _ hTe]; exact he₃
  · rw [hs₁.1]; exact Heap.get?_none_of_le (Nat.le_refl _)
  · refine ⟨_, _, Heap.get?_update_self _ hT₃ (Obj.isFreed_of_fields (Obj.data_mapFields hTd _)), Obj.data_mapFields hTd _, ?_⟩
    simp

theorem my_leaveN {base : Heap} {env : Env} {outer : List Env} {L e : Addr} {oe : Obj} {vs : Array Value} {old : Value} {Q : Unit → Shared → Prop}
    (hfr : A.frames = some (env :: outer)) (hl : s.heap.FunFrames base (env :: outer)) (hf : env.frame = some L)
    (he : s.heap.get? e = some oe) (hd : oe.data = .fields vs) (h1 : vs[1]? = some old) (hold : Landed s.heap e old)
    (h : ∀ h' T, LeftNow ((env :: outer).filterMap (·.frame)) s.heap h' e T oe old → Q () { s with heap := h' }) : wpAny M A (noteFrame (.ref e) env) (fun _ s' => wpAny M A (setFlight (.ref e) none) Q E s') E s := by
  have hsz := (Array.getElem?_eq_some_iff.mp h1).1
  rcases hold with rfl | ⟨T, oT, ts, rfl, hTe, hT, hdT, h3⟩
  · unfold noteFrame
    simp only [hf]
    refine wpAny_bind (wpAny_field he hd h1 ?_)
    rw [if_neg (by decide)]
    exact my_entry hfr hl hf he hd hsz h
  · unfold noteFrame
    simp only [hf]
    refine wpAny_bind (wpAny_field he hd h1 ?_)
    rw [if_pos (show (Value.ref T != Value.none) = true from by simp)]
    refine wpAny_bind (wpAny_field hT hdT h3 ?_)
    rw [if_neg (show ¬ ((Value.none == rawInt L) = true) from by simp [rawInt])]
    refine wpAny_bind (wpAny_setField hT hdT (Array.getElem?_eq_some_iff.mp h3).1 ?_)
    have other : ∀ b, b ≠ T → (s.heap.update T (Obj.mapFields (·.setIfInBounds 3 Value.none))).get? b = s.heap.get? b := fun b hb => Heap.get?_update_other _ _ (Ne.symm hb)
    have noRecord : ∀ b o, s.heap.get? b = some o → (∀ vs, o.data ≠ .fields vs) → b ≠ T := fun b o hb hnf q => by
      rw [q, hT] at hb; injection hb with hb; subst hb; exact hnf ts hdT
    have hfT : ∀ b, b ∈ (env :: outer).filterMap (·.frame) → b ≠ T := fun b hb => by
      obtain ⟨_, o, ho, hnf⟩ := hl.mem hb
      exact noRecord b o ho hnf
    refine my_entry hfr (hl.of_keeps fun b o hb hnf => ⟨o, (other b (noRecord b o hb hnf)).trans hb, rfl⟩) hf ((other e (Ne.symm hTe)).trans he) hd hsz fun h' T' z => h h' T' ?_
    refine ⟨fun b o hb hbe hbo hbf => z.other b o ((other b (fun q => hbo (q ▸ rfl))).trans hb) hbe (fun q => nomatch q) hbf, fun b o hb hbf => z.frame b o ((other b (hfT b hbf)).trans hb) hbf, z.at_, z.ne, ?_, z.entry⟩
    by_cases q : T' = T
    · subst q
      have := z.fresh
      rw [Heap.get?_update_self _ hT (Obj.isFreed_of_fields (Obj.data_mapFields hdT _))] at this
      cases this
    · rw [← other T' q]; exact z.fresh

theorem my_leave {base : Heap} {env : Env} {outer : List Env} {L e : Addr} {oe : Obj} {vs : Array Value} {old : Value} {Q : Unit → Shared → Prop}
    (hfr : A.frames = some (env :: outer)) (hl : s.heap.FunFrames base (env :: outer)) (hf : env.frame = some L)
    (he : s.heap.get? e = some oe) (hd : oe.data = .fields vs) (h1 : vs[1]? = some old) (hold : Landed s.heap e old)
    (h : ∀ h' T, LeftNow ((env :: outer).filterMap (·.frame)) s.heap h' e T oe old → Q () { s with heap := h' }) : wpAny M A (leaving env (.ref e)) Q E s :=
  wpAny_bind (my_leaveN hfr hl hf he hd h1 hold h)

theorem dict_mapFields (o : Obj) (f : Array Value → Array Value) : (o.mapFields f).dict = o.dict := by
  obtain ⟨c, d, dt, sl⟩ := o
  cases dt <;> rfl
theorem fields_set {o : Obj} {vs : Array Value} (hd : o.data = .fields vs) (h1 : 1 < vs.size) (T : Addr) : ∃ vs', (o.mapFields (·.setIfInBounds 1 (.ref T))).data = .fields vs' ∧ vs'[1]? = some (.ref T) :=
  ⟨_, Obj.data_mapFields hd _, by simp [h1]⟩

theorem flew_leave {A₀ : Around} {base g : Heap} {env : Env} {outer : List Env} {L e d : Addr} {oe : Obj} {old : Value} {Q : Unit → Shared → Prop}
    (B : Below A₀ base outer g) (hfr : A.frames = some (env :: outer)) (hf : env.frame = some L) (hk : env.scope.kind ≠ .module)
    (hg : ∀ b o, g.get? b = some o → b ∉ framesOf outer → s.heap.get? b = some o) (hgf : ∀ b o, g.get? b = some o → b ∈ framesOf outer → ∃ sl, s.heap.get? b = some { o with slots := sl })
    (hL : ∃ o, s.heap.get? L = some o ∧ ∀ vs, o.data ≠ .fields vs) (hLg : g.get? L = none) (X : QX s.heap e old d oe) (hold : Landed s.heap e old) (heg : g.get? e = none) (hdg : g.get? d = none) (hdL : d ≠ L)
    (hTg : ∀ T, old = .ref T → g.get? T = none)
    (h : ∀ h', Flew (framesOf outer) g h' e → Q () { s with heap := h' }) : wpAny M A (leaving env (.ref e)) Q E s := by
  have up : ∀ b o, g.get? b = some o → ∃ sl, s.heap.get? b = some { o with slots := sl } := fun b o q => by
    by_cases m : b ∈ framesOf outer
    · exact hgf b o q m
    · exact ⟨o.slots, hg b o q m⟩
  have hl : s.heap.FunFrames base (env :: outer) := by
    obtain ⟨oL, hL1, hL2⟩ := hL
    refine ⟨hk, ⟨L, oL, hf, ?_, hL1, hL2⟩, B.frames.of_keeps fun b o q _ => ?_⟩
    · cases q : base.get? L with
      | none => rfl
      | some o => have := B.stays _ _ q; rw [hLg] at this; cases this
    · obtain ⟨sl, hs⟩ := up b o q
      exact ⟨_, hs, rfl⟩
  obtain ⟨vs, hd, h1⟩ := X.fields
  refine my_leave hfr hl hf X.at_ hd h1 hold fun h' T z => h h' ?_
  have hfs : ∀ b, b ∈ (env :: outer).filterMap (·.frame) → b = L ∨ b ∈ framesOf outer := fun b hb => by
    rw [List.filterMap_cons, hf] at hb
    exact List.mem_cons.mp hb
  have hfs' : ∀ b, b ∈ framesOf outer → b ∈ (env :: outer).filterMap (·.frame) := fun b hb => by
    rw [List.filterMap_cons, hf]
    exact List.mem_cons_of_mem _ hb
  have neg : ∀ b o c, g.get? b = some o → g.get? c = none → b ≠ c := fun b o c q n r => by
    rw [r, n] at q; cases q
  refine ⟨fun b o q m => ?_, fun b o q m => ?_, heg, ?_⟩
  · refine z.other b o (hg b o q m) (neg _ _ _ q heg) (fun r => ?_) (fun r => ?_)
    · exact neg _ _ _ q (hTg b r) rfl
    · rcases hfs b r with r | r
      · exact neg _ _ _ q hLg r
      · exact m r
  · obtain ⟨sl, hs⟩ := hgf b o q m
    obtain ⟨sl', hs'⟩ := z.frame b _ hs (hfs' b m)
    exact ⟨sl', hs'⟩
  · refine ⟨d, _, T, ⟨z.at_, (Obj.cls_mapFields _ _).trans X.cls, (dict_mapFields _ _).trans X.dict, fields_set hd (Array.getElem?_eq_some_iff.mp h1).1 T, X.ne, ?_⟩, .inr ?_, ?_, hdg⟩
    · obtain ⟨mA, t, hn, hc⟩ := X.code
      refine ⟨mA, t, hn.at fun o q => z.other d o q X.ne (fun r => ?_) (fun r => ?_), hc⟩
      · rcases hold with r' | ⟨T', oT, ts, r', _, hT', hdT', _⟩
        · rw [r'] at r; cases r
        · rw [r'] at r
          cases r
          obtain ⟨o', es, ep, q', hd', _⟩ := hn
          rw [hT'] at q'
          cases q'
          rw [hdT'] at hd'
          cases hd'
      · rcases hfs d r with r | r
        · exact hdL r
        · obtain ⟨_, o', ho', _⟩ := B.frames.mem r
          rw [hdg] at ho'; cases ho'
    · obtain ⟨oT, ts, q1, q2, q3⟩ := z.entry
      exact ⟨T, oT, ts, rfl, z.ne, q1, q2, q3⟩
    · cases q : g.get? T with
      | none => rfl
      | some o =>
        obtain ⟨sl, hs⟩ := up T o q
        rw [z.fresh] at hs; cases hs
end
end
-- QI
section
local macro_rules | `(tactic| walk_at "setAttr ref") => `(tactic| ((with_reducible show wpAny _ _ (setAttr (Value.ref _) _ _) _ _ _); refine Halt.go ?_))
local macro_rules | `(tactic| walk_at "call builtin:Exception.__init__") => `(tactic| (refine Halt.go ?_))
/-- a new object of QuicError -/
noncomputable abbrev excNew (t : Value) : Obj := { cls := .ref 31, data := .fields #[t, .none, .none, .none, .bool false, .none] }
noncomputable def NsObj1 (od : Obj) (mA : PySem.Str → Option Value) : Prop := ∃ es ep, od.data = .dict es ep ∧ StrKeys es ∧ UniqKeys es ∧ ∀ name, nsFind es name = mA name
/-- the new exception and its dict, as a ledger -/
noncomputable def IsExc (e : Addr) (foot : Led) : Prop := ∃ d od oe, foot = [(e, oe), (d, od)] ∧ oe.cls = .ref 31 ∧ oe.dict = some d ∧ (∃ vs, oe.data = .fields vs ∧ vs[1]? = some .none) ∧ d ≠ e ∧ ∃ mA t, NsObj1 od mA ∧ mA "code" = some (.int 306 t)
theorem fr_but2 {h₀ h h' : Heap} {L I J : Addr} {m : PySem.Str → Option Value} (F : Fr h₀ L h m) (hk : ∀ b o, b ≠ I → b ≠ J → h.get? b = some o → h'.get? b = some o) (hL : L ≠ I) (hI : h₀.get? I = none) (hL2 : L ≠ J) (hJ : h₀.get? J = none) : Fr h₀ L h' m :=
  ⟨F.ns.at' fun o e => hk L o hL hL2 e, fun b o e => hk b o (fun q => by rw [q, hI] at e; cases e) (fun q => by rw [q, hJ] at e; cases e) (F.keep b o e), F.above⟩

set_option maxHeartbeats 2000000 in
theorem qinit_ct (w : World) (e : Addr) (t0 : Value) (txt : PySem.Str) (t u v : Tok) (hz : txt.length ≤ 100) :
    Ct w 1 28 [(e, excNew t0)] [.ref e, .int 306 t, .int 6 u, .str txt v] (fun r foot' => r = .none ∧ IsExc e foot') False := by
  refine' ct_def (binds := [("self", .ref e), ("code", .int 306 t), ("frame_type", .int 6 u), ("text", .str txt v)]) ?ho ?hcd ?hbind ?hloc ?hcell ?_ ?hco ?hgen ?hk
  walk_at "mine enter"
  intro p loose mean mg mb dp un gd cn cs L a ccd cl outer base g L' s₁ E hck F' N' B' X' T' hd hu hE
  obtain ⟨mN, QC⟩ := qcls_of X'
  have hx := (N' (e, excNew t0) (by simp)).1
  have heL := (N' (e, excNew t0) (by simp)).2.1
  have heg := (N' (e, excNew t0) (by simp)).2.2
  have he31 : e ≠ 31 := fun q => by
    obtain ⟨_, _, _, _, _, _, _, _, _, _, _, _, _, hC⟩ := QC.cls
    rw [← q] at hC
    simp only at heg
    rw [heg] at hC; cases hC
  k_steps
  refine method_type F' X' (T := "Exception") (by kernel_rfl) (by decide +kernel) (v := .builtin "Exception.__init__") (by k_dflt k_is) (by rfl) ?_
  k_steps
  unfold Halt
  refine q_init (QC.keeps F'.keep) hx (fun h1 k1 hx1 => ?_)
  have F1 := LCg.fr_but F' (h' := h1) (I := e) (fun b o hb q => k1 b o (by simpa using hb) q) (Ne.symm heL) heg
  k_steps
  unfold Halt
  refine q_store (QC.keeps F1.keep) QC.code tl_code hx1 rfl (by intro c q; cases q) rfl (fun h2 tk2 hx2 n2 k2 => ?_)
  have F2 := LCg.fr_but F1 (h' := h2) (I := e) (fun b o hb q => k2 b o (by simpa using hb) q) (Ne.symm heL) heg
  have hdg : g.get? h1.objs.size = none := next_is_new F1
  have hdL : L' ≠ h1.objs.size := Nat.ne_of_lt F1.ns.lt
  have hde : h1.objs.size ≠ e := Nat.ne_of_gt (Heap.lt_size hx1)
  generalize h1.objs.size = d at hx2 n2 hdg hdL hde
  k_steps
  unfold Halt
  refine q_store2 (QC.keeps F2.keep) QC.ft tl_ft hx2 rfl (by intro c q; cases q) rfl hde n2 he31 (Within.cons _ _ Within.nil) (by decide) (fun h3 tk3 hx3 n3 k3 => ?_)
  have F3 := fr_but2 F2 k3 (Ne.symm heL) heg hdL hdg
  k_steps
  unfold Halt
  refine q_store2 (QC.keeps F3.keep) QC.text tl_text hx3 rfl (by intro c q; cases q) rfl hde n3 he31 (Within.cons _ _ (Within.cons _ _ Within.nil)) (by decide) (fun h4 tk4 hx4 n4 k4 => ?_)
  have F4 := fr_but2 F3 k4 (Ne.symm heL) heg hdL hdg
  k_steps
  obtain ⟨od, es, ep, q1, q2, q3, q4, q5⟩ := n4
  refine ⟨_, _, _, [(e, { cls := .ref 31, dict := some d, data := .fields #[.ref s₁.heap.objs.size, .none, .none, .none, .bool false, .none] }), (d, od)], rfl, by assumption, ?_, rfl, d, od, _, rfl, rfl, rfl, ⟨_, rfl, rfl⟩, hde, _, _, ⟨es, ep, q2, q3, q4, q5⟩, by first | rfl | decide⟩
  intro p hp
  rcases List.mem_cons.mp hp with rfl | hp
  · exact ⟨hx4, heL, heg⟩
  · rw [List.mem_singleton.mp hp]
    exact ⟨q1, Ne.symm hdL, hdg⟩
end
-- TL
section
local macro_rules | `(tactic| walk_at "call ref") => `(tactic| ((with_reducible show wpAny _ _ (call (Value.ref _) _) _ _ _); refine Halt.go ?_))
set_option maxHeartbeats 2000000 in
theorem tls_ct (w : World) (txt : PySem.Str) (t v : Tok) (hz : txt.length ≤ 100) :
    Ct w 4 75 [] [.int 50 t, .str txt v] (fun r foot' => ∃ e, r = .ref e ∧ IsExc e foot') False := by
  refine' ct_def (binds := [("alert", .int 50 t), ("text", .str txt v)]) ?ho ?hcd ?hbind ?hloc ?hcell ?_ ?hco ?hgen ?hk
  walk_at "mine enter"
  intro p loose mean mg mb dp un gd cn cs L a ccd cl outer base g L' s₁ E hck F' N' B' X' T' hd hu hE
  obtain ⟨mN, QC⟩ := qcls_of X'
  k_steps
  unfold Halt
  have ho28 := X' 28 _ (by k_dflt k_is)
  obtain ⟨nm, q, bs, sn, sub, ab, col, dd, k0, k1, k2, k3, k5, hC⟩ := QC.cls
  refine wpAny_call_exc_init PySem.F.excBase_Exception (F'.keep _ _ hC) (QC.ns.keeps F'.keep) QC.init (F'.keep _ _ ho28) rfl (fun h1 e hm => ?_)
  obtain ⟨t0, hx, ht1, ht2⟩ := hm.there
  have F1 := F'.keeps hm.keeps
  have N1 : News g L' h1 [(e, excNew (.ref t0))] := fun p hp => by
    rw [List.mem_singleton.mp hp]
    refine ⟨hx, fun q => ?_, ?_⟩
    · obtain ⟨oL, _, _, q1, _⟩ := F'.ns
      have q2 := hm.new
      rw [show e = L' from q, q1] at q2
      cases q2
    · cases q : g.get? e with
      | none => rfl
      | some o => have := F'.keep _ _ q; rw [hm.new] at this; cases this
  rw [show (256 + 50 : Int) = 306 from rfl]
  have ew : (Code.builtin "type.__call__" ⟨[Value.ref 31, Value.int 306 s₁.toks, Value.int 6 288, Value.str txt v], []⟩).weight = 1 := by rfl
  have eu : (Code.builtin "type.__call__" ⟨[Value.ref 31, Value.int 306 s₁.toks, Value.int 6 288, Value.str txt v], []⟩).cUnits ≤ 10 := by
    show 1 + 3 * (Code.builtin "type.__call__" ⟨[Value.ref 31, Value.int 306 s₁.toks, Value.int 6 288, Value.str txt v], []⟩).frames ≤ 10
    have ef : (Code.builtin "type.__call__" ⟨[Value.ref 31, Value.int 306 s₁.toks, Value.int 6 288, Value.str txt v], []⟩).frames ≤ 3 := by first | exact (show _ = 1 from rfl) ▸ (by decide) | exact (show _ = 0 from rfl) ▸ (by decide) | exact Nat.le_of_ble_eq_true rfl | simp [Code.frames, Code.isFrame]
    omega
  refine' ct_useF (rest := []) (qinit_ct w e (.ref t0) txt _ _ _ hz) ?sub ?ap ?B ?F ?X ?N ?T ?hk ?hd ?hu ?_
  case sub => intro p hp; exact hp
  case ap => intro p hp q hq; cases hq
  case N => exact N1
  case B => assumption
  case F => assumption
  case X => assumption
  case T => assumption
  case hk => rfl
  case hd => dsimp only [ktrTop, Around.deeper, Around.in1] at *; omega
  case hu => dsimp only [ktrTop, Around.deeper, Around.in1] at *; omega
  intro r h2 tk2 foot' F2 N2 ap2 hP
  obtain ⟨rfl, hI⟩ := hP
  refine ⟨rfl, _, _, _, foot', rfl, F2, by simpa using N2, e, rfl, hI⟩
end
-- RS
section
section
variable {M : Model} {A : Around} {E : Value → Shared → Prop} {s : Shared} {env : Env}
/-- raise, of an expression that gives an object of QuicError -/
theorem raise_q {ex : PySem.Expr} {pos : Pos} {Q : Flow → Shared → Prop} (hh : A.handled = none)
    (h : wpAny M A (eval ex env) (fun v s₁ => ∃ a ob vs mN, v = .ref a ∧ QCls s₁.heap mN ∧ s₁.heap.get? a = some ob ∧ ob.cls = .ref 31 ∧ ob.data = .fields vs ∧ vs[1]? = some .none ∧ E (.ref a) s₁) E s) :
    wpAny M A (exec (.Raise (some ex) none pos) env) Q E s := by
  show wpAny M A (do standAt pos; raiseStmt env (some (do let v ← eval ex env; standAt pos; pure v)) none) Q E s
  refine wpAny_bind (wpAny_standAt ?_)
  unfold raiseStmt
  dsimp only
  refine wpAny_bind (wpAny_bind (wpAny_mono h (fun v s₁ h₁ => wpAny_bind (wpAny_standAt (wpAny_pure ?_))) fun _ _ x => x))
  obtain ⟨a, ob, vs, mN, rfl, QC, ha, hcls, hd, h1, hE⟩ := h₁
  obtain ⟨nm, q, bs, sn, sub, ab, col, dd, k0, k1, k2, k3, k5, hC⟩ := QC.cls
  obtain ⟨hp, g, d, tk, os⟩ := s₁
  have hnt : ∀ {Q' : Bool → Shared → Prop}, Q' false ⟨hp, g, d, tk, os⟩ → wpAny M A (isType (.ref a)) Q' E ⟨hp, g, d, tk, os⟩ := by
    intro Q' hq
    simp only [isType, loadHead]
    refine wpAny_bind (wpAny_loadPart ha ?_)
    rw [hd]; exact wpAny_pure hq
  refine wpAny_bind (wpAny_pure ?_)
  dsimp only
  refine wpAny_bind (wpAny_holding ?_)
  unfold excFromValue isExcClass
  refine wpAny_bind (wpAny_bind (hnt ?_))
  simp only [Bool.false_eq_true, if_false]
  refine wpAny_pure ?_
  simp only [Bool.false_eq_true, if_false]
  have hcB : (Value.ref 31 :: [Value.type "Exception", .type "BaseException", .type "object"]).contains (.type "BaseException") = true := by decide +kernel
  unfold isInstance
  refine wpAny_bind ?_
  refine wpAny_bind ?_
  unfold typeOf
  dsimp only
  refine wpAny_bind (wpAny_loadPart_at ha ?_)
  rw [hcls]
  refine wpAny_pure ?_
  refine wpAny_isSubtype_exc hC ?_
  rw [hcB]
  rw [if_pos rfl]
  refine wpAny_pure ?_
  refine wpAny_bind (hnt ?_)
  simp only [Bool.false_eq_true, if_false]
  unfold raisedInstance
  refine wpAny_bind (wpAny_bind ?_)
  unfold typeOf
  dsimp only
  refine wpAny_bind (wpAny_loadPart_at ha ?_)
  rw [hcls]
  refine wpAny_pure (wpAny_bind ?_)
  dsimp only
  refine wpAny_bind (wpAny_loadPart_at hC ?_)
  refine wpAny_pure ?_
  rw [if_pos (show (Value.type "type" == Value.type "type") = true from by decide)]
  refine wpAny_pure ?_
  unfold setFlight raiseNew
  refine wpAny_bind (wpAny_bind (wpAny_field ha hd h1 ?_))
  rw [if_neg (by decide)]
  refine wpAny_pure (wpAny_bind (wpAny_handled ?_))
  rw [hh]
  first
    | exact wpAny_throw hE
    | exact wpAny_bind (wpAny_pure (wpAny_throw hE))
end
end
-- SPP
section
noncomputable abbrev Msg := UInt8 × List UInt8 × List UInt8
noncomputable def msgDat (m : Msg) : Dat := .tuple [.int ((m.1.toNat : Nat) : Int), .bytes m.2.1.toArray, .bytes m.2.2.toArray]

/-- what split_messages does, in plain Lean -/
noncomputable def splitF (most : Nat) (d : List UInt8) : Option (List Msg × List UInt8) :=
  if d.length < 4 then some ([], d)
  else if most < valOf ((d.drop 1).take 3) then none
  else if d.length < 4 + valOf ((d.drop 1).take 3) then some ([], d)
  else (splitF most (d.drop (4 + valOf ((d.drop 1).take 3)))).map fun r => ((d.getD 0 0, (d.drop 4).take (valOf ((d.drop 1).take 3)), d.take (4 + valOf ((d.drop 1).take 3))) :: r.1, r.2)
termination_by d.length
decreasing_by simp only [List.length_drop]; omega

theorem splitF_short {most : Nat} {d : List UInt8} (h : d.length < 4) : splitF most d = some ([], d) := by
  rw [splitF, if_pos h]
theorem splitF_long {most : Nat} {d : List UInt8} (h : ¬ d.length < 4) (h2 : most < valOf ((d.drop 1).take 3)) : splitF most d = none := by
  rw [splitF, if_neg h, if_pos h2]
theorem splitF_wait {most : Nat} {d : List UInt8} (h : ¬ d.length < 4) (h2 : ¬ most < valOf ((d.drop 1).take 3)) (h3 : d.length < 4 + valOf ((d.drop 1).take 3)) : splitF most d = some ([], d) := by
  rw [splitF, if_neg h, if_neg h2, if_pos h3]
theorem splitF_one {most : Nat} {d : List UInt8} (h : ¬ d.length < 4) (h2 : ¬ most < valOf ((d.drop 1).take 3)) (h3 : ¬ d.length < 4 + valOf ((d.drop 1).take 3)) :
    splitF most d = (splitF most (d.drop (4 + valOf ((d.drop 1).take 3)))).map fun r => ((d.getD 0 0, (d.drop 4).take (valOf ((d.drop 1).take 3)), d.take (4 + valOf ((d.drop 1).take 3))) :: r.1, r.2) := by
  rw [splitF, if_neg h, if_neg h2, if_neg h3]
theorem valOf_le (l : List UInt8) : valOf l < 256 ^ l.length := by
  have : ∀ (l : List UInt8) (a : Nat), l.foldl (fun a c => a * 256 + c.toNat) a < (a + 1) * 256 ^ l.length := by
    intro l
    induction l with
    | nil => intro a; simp
    | cons c r ih =>
      intro a
      simp only [List.foldl_cons, List.length_cons]
      have h := ih (a * 256 + c.toNat)
      have hc : c.toNat < 256 := c.toNat_lt
      have e : (a * 256 + c.toNat + 1) * 256 ^ r.length ≤ ((a + 1) * 256) * 256 ^ r.length := Nat.mul_le_mul_right _ (by omega)
      rw [Nat.pow_succ', ← Nat.mul_assoc]
      omega
  have h := this l 0
  simpa [valOf] using h
end
-- FL
section
/-! an exception of the text, raised in a def's body -/
theorem flew_first {w : World} {dp un : Nat} {gd : Option (List Code)} {cn : PySem.Str} {cs : Scope} {L a : Addr} {ccd : Value} {cl : List (PySem.Str × Addr)} {outer : List Env} {base g : Heap} {env : Env} {L' e : Addr} {foot' : Led} {m : PySem.Str → Option Value} {s : Shared} {Q : Value → Shared → Prop} {E' : Value → Shared → Prop}
    (B : Below (ktrTop dp un gd cn cs L a ccd cl outer) base (envX cn cs L a ccd cl :: outer) g) (hf : env.frame = some L') (hk : env.scope.kind = .function) (F : Fr g L' s.heap m) (N : News g L' s.heap foot') (I : IsExc e foot')
    (h : ∀ h', Flew (framesOf (envX cn cs L a ccd cl :: outer)) g h' e → Q (.ref e) { s with heap := h' }) :
    wpAny (model PR w) ((ktrTop dp un gd cn cs L a ccd cl outer).deeper env) (leaving env (.ref e)) (fun _ s'' => Q (.ref e) s'') E' s := by
  obtain ⟨d, od, oe, rfl, hc, hd, ⟨vs, hv, h1⟩, hne, mA, t, ⟨es, ep, q1, q2, q3, q4⟩, hcode⟩ := I
  obtain ⟨a1, a2, a3⟩ := N (e, oe) (by simp)
  obtain ⟨b1, b2, b3⟩ := N (d, od) (by simp)
  refine flew_leave (d := d) (oe := oe) (old := .none) B (Around.frames_deeper B.stack) hf (by rw [hk]; decide) (fun b o q _ => F.keep b o q) (fun b o q _ => ⟨o.slots, F.keep b o q⟩) ?_ (kts_self F) ⟨a1, hc, hd, ⟨vs, hv, h1⟩, hne, mA, t, ⟨od, es, ep, b1, q1, q2, q3, q4⟩, hcode⟩ (.inl rfl) a3 b3 b2 (fun T q => nomatch q) fun h' z => h h' z
  obtain ⟨oL, es', ep', r1, r2, _⟩ := F.ns
  exact ⟨oL, r1, fun vs q => by rw [r2] at q; cases q⟩

theorem exc_raisable {w : World} {g h : Heap} {L' e : Addr} {foot' : Led} {m : PySem.Str → Option Value} (X : (htop.heap_1 w.params).In g) (F : Fr g L' h m) (N : News g L' h foot') (I : IsExc e foot') :
    ∃ ob vs mN, QCls h mN ∧ h.get? e = some ob ∧ ob.cls = .ref 31 ∧ ob.data = .fields vs ∧ vs[1]? = some .none := by
  obtain ⟨d, od, oe, rfl, hc, hd, ⟨vs, hv, h1⟩, _⟩ := I
  obtain ⟨mN, QC⟩ := qcls_of X
  exact ⟨oe, vs, mN, QC.keeps F.keep, (N (e, oe) (by simp)).1, hc, hv, h1⟩
theorem flew_next {w : World} {dp un : Nat} {gd : Option (List Code)} {cn : PySem.Str} {cs : Scope} {L a : Addr} {ccd : Value} {cl : List (PySem.Str × Addr)} {outer : List Env} {base g h : Heap} {env : Env} {L' e : Addr} {m : PySem.Str → Option Value} {s : Shared} {Q : Value → Shared → Prop} {E' : Value → Shared → Prop}
    (B : Below (ktrTop dp un gd cn cs L a ccd cl outer) base (envX cn cs L a ccd cl :: outer) g) (hf : env.frame = some L') (hk : env.scope.kind = .function) (F : Fr g L' h m) (Y : Flew (framesOf (env :: envX cn cs L a ccd cl :: outer)) h s.heap e)
    (h : ∀ h', Flew (framesOf (envX cn cs L a ccd cl :: outer)) g h' e → Q (.ref e) { s with heap := h' }) :
    wpAny (model PR w) ((ktrTop dp un gd cn cs L a ccd cl outer).deeper env) (leaving env (.ref e)) (fun _ s'' => Q (.ref e) s'') E' s := by
  obtain ⟨d, oe, T, X, hl, hT, hd⟩ := Y.there
  have hLg := kts_self F
  have nm : ∀ b, b ∈ framesOf (env :: envX cn cs L a ccd cl :: outer) → b = L' ∨ b ∈ framesOf (envX cn cs L a ccd cl :: outer) := fun b hb => by
    unfold framesOf at hb
    rw [List.filterMap_cons, hf] at hb
    exact List.mem_cons.mp hb
  have nm' : ∀ b, b = L' ∨ b ∈ framesOf (envX cn cs L a ccd cl :: outer) → b ∈ framesOf (env :: envX cn cs L a ccd cl :: outer) := fun b hb => by
    unfold framesOf
    rw [List.filterMap_cons, hf]
    exact List.mem_cons.mpr hb
  obtain ⟨oL, es', ep', r1, r2, _⟩ := F.ns
  refine flew_leave (d := d) (oe := oe) (old := .ref T) B (Around.frames_deeper B.stack) hf (by rw [hk]; decide) (fun b o q n => ?_) (fun b o q n => ?_) ?_ hLg X hl (kts_none F.keep Y.new) (kts_none F.keep hd) (fun q => ?_) (fun T' q => ?_) fun h' z => h h' z
  · refine Y.other b o (F.keep b o q) fun r => ?_
    rcases nm b r with r | r
    · rw [r, hLg] at q; cases q
    · exact n r
  · exact Y.frame b o (F.keep b o q) (nm' b (.inr n))
  · obtain ⟨sl, hs⟩ := Y.frame L' oL r1 (nm' L' (.inl rfl))
    exact ⟨_, hs, fun vs q => by
      have : oL.data = .fields vs := q
      rw [r2] at this; cases this⟩
  · rw [q, r1] at hd; cases hd
  · cases q
    exact kts_none F.keep hT
end
-- SP
section
local macro_rules | `(tactic| walk_at "call ref") => `(tactic| ((with_reducible show wpAny _ _ (call (Value.ref _) _) _ _ _); refine Halt.go ?_))
local macro_rules | `(tactic| walk_at "exec While Compare") => `(tactic| (refine Halt.go ?_))
local macro_rules | `(tactic| walk_at "exec Raise some none") => `(tactic| (refine raise_q rfl ?_))
theorem swap2 {α : Type} {a b : α} {l : List α} : ∀ p ∈ a :: b :: l, p ∈ b :: a :: l := by
  intro p hp
  grind
structure SpS where
  vals : List Value
  led : Led
  n : Nat
  k : Nat
  tk : Tok
  ms : List Msg

theorem split_turn {data : List UInt8} {most : Nat} {g h' : Heap} {L' l D2 : Addr} {m' m₀ : PySem.Str → Option Value} {vals : List Value} {led : Led} {n k k' : Nat} {tk ta tb tc : Tok} {tkk : Nat} {ms : List Msg} {i8 : UInt8} {x y : List UInt8} {s : Shared}
    (F : Fr g L' h' m') (N : News g L' h' ((D2, { cls := Value.type "tuple", data := Data.seq #[Value.int ((i8.toNat : Nat) : Int) ta, Value.bytes x.toArray tb, Value.bytes y.toArray tc] }) :: (l, PySem.W.listOf (vals ++ [Value.ref D2]).toArray (n + 1)) :: led))
    (hlt : @LT.lt Nat _ l D2) (hD : DatAll led vals (ms.map msgDat)) (hL : ∀ p ∈ led, p.1 ≠ l) (hat : ∃ tk', m' (Str.ofString "at") = some (.int ((k' : Nat) : Int) tk'))
    (hrest : ∀ z, z ≠ Str.ofString "at" → z ≠ Str.ofString "size" → z ≠ Str.ofString "end" → m' z = m₀ z) (hk : k' ≤ data.length) (hv : vals.length + 1 ≤ k')
    (heq : splitF most data = (splitF most (data.drop k')).map fun r => (ms ++ [(i8, x, y)] ++ r.1, r.2)) (hm : k < k') :
    KswEnd g L' s (fun c : SpS => (l, PySem.W.listOf c.vals.toArray c.n) :: c.led) (fun c => [(Str.ofString "at", Value.int c.k c.tk)]) (fun c => DatAll c.led c.vals (c.ms.map msgDat) ∧ ∀ p ∈ c.led, p.1 ≠ l) [Str.ofString "size", Str.ofString "end"] m₀
      (fun c => c.k ≤ data.length ∧ c.vals.length ≤ c.k ∧ splitF most data = (splitF most (data.drop c.k)).map fun r => (c.ms ++ r.1, r.2)) (fun c => data.length - c.k) ⟨vals, led, n, k, tk, ms⟩ { s with heap := h', toks := tkk } := by
  obtain ⟨tk', hat⟩ := hat
  refine ksw_end ⟨vals ++ [.ref D2], (D2, _) :: led, n + 1, k', tk', ms ++ [(i8, x, y)]⟩ F N (fun p hp => swap2 p hp) ⟨?all, ?off⟩ ?locs ?rest ⟨hk, ?len, heq⟩ ?mu
  case all =>
    rw [List.map_append]
    refine DatAll.append (hD.mono fun p hp => List.mem_cons_of_mem _ hp) (DatAll.one ?_)
    exact DatIn.tuple (vs := [_, _, _]) (List.mem_cons_self ..) (.cons (.int _ _) (.cons (.bytes _ _) (.cons (.bytes _ _) .nil)))
  case off =>
    intro p hp
    rcases List.mem_cons.mp hp with rfl | hp
    · exact Nat.ne_of_gt hlt
    · exact hL p hp
  case locs =>
    intro p hp
    rw [List.mem_singleton.mp hp]
    exact hat
  case rest =>
    intro z h2 h3
    have e1 : z ≠ Str.ofString "at" := h2 (Str.ofString "at", _) List.mem_cons_self
    simp only [List.contains_cons, List.contains_nil, Bool.or_false, Bool.or_eq_false_iff, beq_eq_false_iff_ne, ne_eq] at h3
    exact hrest z e1 h3.1 h3.2
  case len =>
    simp only [List.length_append, List.length_cons, List.length_nil]
    exact hv
  case mu =>
    show data.length - k' < data.length - k
    omega
set_option maxHeartbeats 2000000 in
theorem split_ct (w : World) (data : List UInt8) (most : Nat) (t u : Tok) (hz : data.length ≤ 100000) (hm : most ≤ 1000) :
    Ct w 6 89 [] [.bytes data.toArray t, .int most u] (fun r foot' => ∃ ms rest, splitF most data = some (ms, rest) ∧ DatIn foot' r (.tuple [.list (ms.map msgDat), .bytes rest.toArray])) (splitF most data = none) := by
  refine' ct_def (binds := [("data", .bytes data.toArray t), ("most", .int most u)]) ?ho ?hcd ?hbind ?hloc ?hcell ?_ ?hco ?hgen ?hk
  walk_at "mine enter"
  intro p loose mean mg mb dp un gd cn cs L a ccd cl outer base g L' s₁ E hck F' N' B' X' T' hd hu hE
  k_steps
  unfold Halt
  with_reducible rename News _ _ _ _ => N1
  with_reducible rename Fr _ _ _ _ => F1
  rename_i l _ _ D _ _ _ _ h1
  refine ksw_while (σ := SpS) (fun c => (l, PySem.W.listOf c.vals.toArray c.n) :: c.led) (fun c => [(Str.ofString "at", .int c.k c.tk)]) (fun c => DatAll c.led c.vals (c.ms.map msgDat) ∧ ∀ p ∈ c.led, p.1 ≠ l) [Str.ofString "size", Str.ofString "end"]
    (fun c => c.k ≤ data.length ∧ c.vals.length ≤ c.k ∧ splitF most data = (splitF most (data.drop c.k)).map fun r => (c.ms ++ r.1, r.2)) (fun c => data.length - c.k) ⟨[], [], 0, 0, s₁.toks, []⟩ F1 (fun p hp => N1 p (List.mem_cons_of_mem _ hp)) ⟨.nil, fun _ z => (nomatch z)⟩
    (by intro p hp; rw [List.mem_singleton.mp hp]; rfl) ⟨Nat.zero_le _, Nat.zero_le _, by simp⟩ ?turn
  rintro ⟨vals, led, n, k, tk, ms⟩ uu h2 tk2 ⟨hD, hL⟩ ⟨hk, hv, hs⟩ F2 N2
  clear F1 N1
  dsimp only at *
  k_steps
  · unfold Halt
    rw [show (k : Int) + 1 = ((k + 1 : Nat) : Int) by omega]
    refine' ct_use0 (get_whole_ct w data (k + 1) 3 t _ _ (by omega) (by omega)) ?B ?F ?X ?N ?T ?hk ?hd ?hu ?_ (fun z => nomatch z)
    walk_at "mine use"
    intro r h3 tk3 foot3 F3 N3 ap3 hP
    obtain ⟨rfl, t3, rfl⟩ := hP
    clear F2 N2
    have hsz : valOf ((data.drop (k + 1)).take 3) ≤ 16777216 := by
      have h1 := valOf_le ((data.drop (k + 1)).take 3)
      have h2 : ((data.drop (k + 1)).take 3).length ≤ 3 := by simp; omega
      have h3 : 256 ^ ((data.drop (k + 1)).take 3).length ≤ 256 ^ 3 := Nat.pow_le_pow_right (by decide) h2
      omega
    generalize hsize : valOf ((data.drop (k + 1)).take 3) = size at hsz
    simp only [List.nil_append] at N3
    dsimp only
    k_steps
    · unfold Halt
      with_reducible rename Fr _ _ _ _ => F4
      with_reducible rename News _ _ _ _ => N4
      refine' ct_use0 (tls_ct w (Str.ofString "a message is too long") _ _ (by decide)) ?B ?F ?X ?N ?T ?hk ?hd ?hu ?_ (fun z => nomatch z)
      walk_at "mine use"
      intro r h5 tk5 foot5 F5 N5 ap5 hP
      obtain ⟨e, rfl, hI⟩ := hP
      have N6 : News g L' h5 foot5 := fun p hp => N5 p (List.mem_append_left _ hp)
      obtain ⟨ob, vs, mN, q1, q2, q3, q4, q5⟩ := exc_raisable X' F5 N6 hI
      refine ⟨e, ob, vs, mN, rfl, q1, q2, q3, q4, q5, ?_⟩
      refine flew_first B' rfl rfl F5 N6 hI fun h' z => hE ?_ e h' _ z
      rw [hs, splitF_long (by simp only [List.length_drop]; omega) (by rw [List.drop_drop, hsize]; omega)]
      rfl
    · with_reducible rename Fr _ _ _ _ => F4
      with_reducible rename News _ _ _ _ => N4
      refine ⟨_, _, _, _, rfl, F4, N4, ms, data.drop k, ?_, ?_⟩
      · rw [hs, splitF_wait (by simp only [List.length_drop]; omega) (by rw [List.drop_drop, hsize]; omega) (by rw [List.drop_drop, hsize, List.length_drop]; omega)]
        simp
      · rw [cut_a data (by omega), Int.toNat_natCast]
        refine DatIn.tuple (vs := [_, _]) (List.mem_cons_self ..) (.cons (.list (List.mem_cons_of_mem _ (List.mem_cons_self ..)) (hD.mono fun p hp => List.mem_cons_of_mem _ (List.mem_cons_of_mem _ hp))) (.cons (.bytes _ _) .nil))
    · with_reducible rename _ ∧ AllLt _ _ => hlt
      k_steps
      with_reducible rename Fr _ _ _ _ => F4
      with_reducible rename News _ _ _ _ => N4
      refine split_turn (k' := k + 4 + size) F4 N4 hlt.1 hD hL ?at_ ?rest (by omega) (by omega) ?eq (by omega)
      case at_ =>
        exact ⟨_, congrArg (fun i => some (Value.int i _)) (show (k : Int) + 4 + (size : Int) = ((k + 4 + size : Nat) : Int) by omega)⟩
      case rest =>
        intro z e1 e2 e3
        simp [kstB, e1, e2, e3]
      case eq =>
        rw [hs, splitF_one (by simp only [List.length_drop]; omega) (by rw [List.drop_drop, hsize]; omega) (by rw [List.drop_drop, hsize, List.length_drop]; omega)]
        rw [cut_ab data (by omega) (by omega), cut_ab data (by omega) (by omega)]
        have e1 : ((k : Int) + 4 + (size : Int)).toNat - ((k : Int) + 4).toNat = size := by omega
        have e2 : ((k : Int) + 4 + (size : Int)).toNat - ((k : Int)).toNat = 4 + size := by omega
        have e3 : ((k : Int) + 4).toNat = k + 4 := by omega
        have e4 : (data.drop k).getD 0 0 = data.getD k 0 := by simp [List.getD_eq_getElem?_getD, List.getElem?_drop]
        rw [e1, e2, e3, Int.toNat_natCast]
        simp only [List.drop_drop, hsize, Option.map_map]
        rw [show k + (4 + size) = k + 4 + size by omega, e4]
        congr 1
        funext r
        simp
  · with_reducible rename Fr _ _ _ _ => F4
    with_reducible rename News _ _ _ _ => N4
    refine ⟨_, _, _, _, rfl, F4, N4, ms, data.drop k, ?_, ?_⟩
    · rw [hs, splitF_short (by simp only [List.length_drop]; omega)]
      simp
    · rw [cut_a data (by omega), Int.toNat_natCast]
      refine DatIn.tuple (vs := [_, _]) (List.mem_cons_self ..) (.cons (.list (List.mem_cons_of_mem _ (List.mem_cons_self ..)) (hD.mono fun p hp => List.mem_cons_of_mem _ (List.mem_cons_of_mem _ hp))) (.cons (.bytes _ _) .nil))
end
-- RDP
section
/-- what the loop of read_fields does, in plain Lean -/
noncomputable def readF (d : List UInt8) : Option (List (List UInt8)) :=
  if d.length = 0 then some []
  else if d.length < 2 then none
  else if d.length < 2 + valOf (d.take 2) then none
  else (readF (d.drop (2 + valOf (d.take 2)))).map fun r => (d.drop 2).take (valOf (d.take 2)) :: r
termination_by d.length
decreasing_by simp only [List.length_drop]; omega
noncomputable def fieldDat (d : List UInt8) : Dat := .bytes d.toArray
noncomputable def manyF (many : Option Nat) (r : Option (List (List UInt8))) : Option (List (List UInt8)) := r.bind fun l => match many with
  | none => some l
  | some n => if l.length = n then some l else none
theorem readF_nil {d : List UInt8} (h : d.length = 0) : readF d = some [] := by rw [readF, if_pos h]
theorem readF_one {d : List UInt8} (h : ¬ d.length = 0) (h2 : d.length < 2) : readF d = none := by rw [readF, if_neg h, if_pos h2]
theorem readF_short {d : List UInt8} (h : ¬ d.length = 0) (h2 : ¬ d.length < 2) (h3 : d.length < 2 + valOf (d.take 2)) : readF d = none := by rw [readF, if_neg h, if_neg h2, if_pos h3]
theorem readF_step {d : List UInt8} (h : ¬ d.length = 0) (h2 : ¬ d.length < 2) (h3 : ¬ d.length < 2 + valOf (d.take 2)) :
    readF d = (readF (d.drop (2 + valOf (d.take 2)))).map fun r => (d.drop 2).take (valOf (d.take 2)) :: r := by rw [readF, if_neg h, if_neg h2, if_neg h3]
end
-- RD
section
local macro_rules | `(tactic| walk_at "call ref") => `(tactic| ((with_reducible show wpAny _ _ (call (Value.ref _) _) _ _ _); refine Halt.go ?_))
local macro_rules | `(tactic| walk_at "exec While Compare") => `(tactic| (refine Halt.go ?_))
local macro_rules | `(tactic| walk_at "exec Raise some none") => `(tactic| (refine raise_q rfl ?_))
local macro_rules | `(tactic| walk_at "call builtin:len") => `(tactic| (walk_at "mine lenl"))
/-- what stands for `many` -/
noncomputable def manyV : Option Nat → Tok → Value
  | none, _ => .none
  | some m, u => .int m u
structure RdS where
  vals : List Value
  n : Nat
  k : Nat
  tk : Tok
  fs : List (List UInt8)

theorem read_turn {data : List UInt8} {g h' : Heap} {L' l : Addr} {m' m₀ : PySem.Str → Option Value} {vals : List Value} {n k k' : Nat} {tk ta : Tok} {tkk : Nat} {fs : List (List UInt8)} {x : List UInt8} {s : Shared}
    (F : Fr g L' h' m') (N : News g L' h' ((l, PySem.W.listOf (vals ++ [Value.bytes x.toArray ta]).toArray (n + 1)) :: []))
    (hD : DatAll [] vals (fs.map fieldDat)) (hat : ∃ tk', m' (Str.ofString "at") = some (.int ((k' : Nat) : Int) tk'))
    (hrest : ∀ z, z ≠ Str.ofString "at" → z ≠ Str.ofString "end" → m' z = m₀ z) (hk : k' ≤ data.length) (hv : vals.length + 1 ≤ k')
    (heq : readF data = (readF (data.drop k')).map fun r => fs ++ [x] ++ r) (hm : k < k') :
    KswEnd g L' s (fun c : RdS => (l, PySem.W.listOf c.vals.toArray c.n) :: []) (fun c => [(Str.ofString "at", Value.int c.k c.tk)]) (fun c => DatAll [] c.vals (c.fs.map fieldDat)) [Str.ofString "end"] m₀
      (fun c => c.k ≤ data.length ∧ c.vals.length ≤ c.k ∧ readF data = (readF (data.drop c.k)).map fun r => c.fs ++ r) (fun c => data.length - c.k) ⟨vals, n, k, tk, fs⟩ { s with heap := h', toks := tkk } := by
  obtain ⟨tk', hat⟩ := hat
  refine ksw_end ⟨vals ++ [.bytes x.toArray ta], n + 1, k', tk', fs ++ [x]⟩ F N (fun p hp => hp) ?all ?locs ?rest ⟨hk, ?len, heq⟩ ?mu
  case all =>
    rw [List.map_append]
    exact DatAll.append hD (DatAll.one (.bytes _ _))
  case locs =>
    intro p hp
    rw [List.mem_singleton.mp hp]
    exact hat
  case rest =>
    intro z h2 h3
    have e1 : z ≠ Str.ofString "at" := h2 (Str.ofString "at", _) List.mem_cons_self
    simp only [List.contains_cons, List.contains_nil, Bool.or_false, Bool.or_eq_false_iff, beq_eq_false_iff_ne, ne_eq] at h3
    exact hrest z e1 h3
  case len =>
    simp only [List.length_append, List.length_cons, List.length_nil]
    exact hv
  case mu =>
    show data.length - k' < data.length - k
    omega
theorem getwhole_lt {data : List UInt8} {k : Nat} : valOf ((data.drop k).take 2) ≤ 65535 := by
  have h1 := valOf_le ((data.drop k).take 2)
  have h2 : ((data.drop k).take 2).length ≤ 2 := by simp; omega
  have h3 : 256 ^ ((data.drop k).take 2).length ≤ 256 ^ 2 := Nat.pow_le_pow_right (by decide) h2
  omega

set_option maxHeartbeats 2000000 in
theorem read_ct (w : World) (data : List UInt8) (many : Option Nat) (t u : Tok) (hz : data.length ≤ 100000) :
    Ct w 6 103 [] [.bytes data.toArray t, manyV many u] (fun r foot' => ∃ fs, manyF many (readF data) = some fs ∧ DatIn foot' r (.list (fs.map fieldDat))) (manyF many (readF data) = none) := by
  refine' ct_def (binds := [("data", .bytes data.toArray t), ("many", manyV many u)]) ?ho ?hcd ?hbind ?hloc ?hcell ?_ ?hco ?hgen ?hk
  walk_at "mine enter"
  intro p loose mean mg mb dp un gd cn cs L a ccd cl outer base g L' s₁ E hck F' N' B' X' T' hd hu hE
  k_steps
  unfold Halt
  with_reducible rename News _ _ _ _ => N1
  with_reducible rename Fr _ _ _ _ => F1
  rename_i l _ _ D _ _ _ _ h1
  refine ksw_while (σ := RdS) (fun c => (l, PySem.W.listOf c.vals.toArray c.n) :: []) (fun c => [(Str.ofString "at", .int c.k c.tk)]) (fun c => DatAll [] c.vals (c.fs.map fieldDat)) [Str.ofString "end"]
    (fun c => c.k ≤ data.length ∧ c.vals.length ≤ c.k ∧ readF data = (readF (data.drop c.k)).map fun r => c.fs ++ r) (fun c => data.length - c.k) ⟨[], 0, 0, s₁.toks, []⟩ F1 (fun p hp => N1 p (List.mem_cons_of_mem _ hp)) .nil
    (by intro p hp; rw [List.mem_singleton.mp hp]; rfl) ⟨Nat.zero_le _, Nat.zero_le _, by simp⟩ ?turn
  rintro ⟨vals, n, k, tk, fs⟩ uu h2 tk2 hD ⟨hk, hv, hs⟩ F2 N2
  clear F1 N1
  dsimp only at *
  have hvz : vals.length ≤ 1000000 := by omega
  have hlen : vals.length = fs.length := by have := hD.length; simpa using this
  k_steps
  · -- a length is wanted and is not there
    unfold Halt
    with_reducible rename Fr _ _ _ _ => F4
    with_reducible rename News _ _ _ _ => N4
    refine' ct_use0 (tls_ct w (Str.ofString "a field has no length") _ _ (by decide)) ?B ?F ?X ?N ?T ?hk ?hd ?hu ?_ (fun z => nomatch z)
    walk_at "mine use"
    intro r h5 tk5 foot5 F5 N5 ap5 hP
    obtain ⟨e, rfl, hI⟩ := hP
    have N6 : News g L' h5 foot5 := fun p hp => N5 p (List.mem_append_left _ hp)
    obtain ⟨ob, vs, mN, q1, q2, q3, q4, q5⟩ := exc_raisable X' F5 N6 hI
    refine ⟨e, ob, vs, mN, rfl, q1, q2, q3, q4, q5, ?_⟩
    refine flew_first B' rfl rfl F5 N6 hI fun h' z => hE ?_ e h' _ z
    rw [hs, readF_one (by simp only [List.length_drop]; omega) (by simp only [List.length_drop]; omega)]
    rfl
  · unfold Halt
    refine' ct_use0 (get_whole_ct w data k 2 t _ _ (by omega) (by omega)) ?B ?F ?X ?N ?T ?hk ?hd ?hu ?_ (fun z => nomatch z)
    walk_at "mine use"
    intro r h3 tk3 foot3 F3 N3 ap3 hP
    obtain ⟨rfl, t3, rfl⟩ := hP
    with_reducible clear F2
    with_reducible clear N2
    have hsz : valOf ((data.drop k).take 2) ≤ 65535 := getwhole_lt
    generalize hsize : valOf ((data.drop k).take 2) = size at hsz
    simp only [List.nil_append] at N3
    dsimp only
    k_steps
    ·
      unfold Halt
      with_reducible rename Fr _ _ _ _ => F4
      with_reducible rename News _ _ _ _ => N4
      refine' ct_use0 (tls_ct w (Str.ofString "a field is too short") _ _ (by decide)) ?B ?F ?X ?N ?T ?hk ?hd ?hu ?_ (fun z => nomatch z)
      walk_at "mine use"
      intro r h5 tk5 foot5 F5 N5 ap5 hP
      obtain ⟨e, rfl, hI⟩ := hP
      have N6 : News g L' h5 foot5 := fun p hp => N5 p (List.mem_append_left _ hp)
      obtain ⟨ob, vs, mN, q1, q2, q3, q4, q5⟩ := exc_raisable X' F5 N6 hI
      refine ⟨e, ob, vs, mN, rfl, q1, q2, q3, q4, q5, ?_⟩
      refine flew_first B' rfl rfl F5 N6 hI fun h' z => hE ?_ e h' _ z
      rw [hs, readF_short (by simp only [List.length_drop]; omega) (by simp only [List.length_drop]; omega) (by rw [hsize, List.length_drop]; omega)]
      rfl
    · k_steps
      with_reducible rename Fr _ _ _ _ => F4
      with_reducible rename News _ _ _ _ => N4
      refine read_turn (k' := k + 2 + size) F4 N4 hD ?at_ ?rest (by omega) (by omega) ?eq (by omega)
      case at_ =>
        exact ⟨_, congrArg (fun i => some (Value.int i _)) (show (k : Int) + 2 + (size : Int) = ((k + 2 + size : Nat) : Int) by omega)⟩
      case rest =>
        intro z e1 e2
        simp [kstB, e1, e2]
      case eq =>
        rw [hs, readF_step (by simp only [List.length_drop]; omega) (by simp only [List.length_drop]; omega) (by rw [hsize, List.length_drop]; omega)]
        rw [cut_ab data (by omega) (by omega)]
        have e1 : ((k : Int) + 2 + (size : Int)).toNat - ((k : Int) + 2).toNat = size := by omega
        have e3 : ((k : Int) + 2).toNat = k + 2 := by omega
        rw [e1, e3]
        simp only [List.drop_drop, hsize, Option.map_map]
        rw [show k + (2 + size) = k + 2 + size by omega]
        congr 1
        funext r
        simp
  · cases many with
    | none =>
      dsimp only [manyV]
      k_steps
      with_reducible rename Fr _ _ _ _ => F4
      with_reducible rename News _ _ _ _ => N4
      refine ⟨_, _, _, _, rfl, F4, N4, fs, ?_, ?_⟩
      · rw [hs, readF_nil (by simp only [List.length_drop]; omega)]
        simp [manyF]
      · exact DatIn.list (List.mem_cons_self ..) (hD.mono (fun p hp => by cases hp))
    | some many =>
      dsimp only [manyV]
      k_steps
      dsimp only [manyV]
      k_steps
      ·
        unfold Halt
        with_reducible rename Fr _ _ _ _ => F4
        with_reducible rename News _ _ _ _ => N4
        refine' ct_use0 (tls_ct w (Str.ofString "not so many fields") _ _ (by decide)) ?B ?F ?X ?N ?T ?hk ?hd ?hu ?_ (fun z => nomatch z)
        walk_at "mine use"
        intro r h5 tk5 foot5 F5 N5 ap5 hP
        obtain ⟨e, rfl, hI⟩ := hP
        have N6 : News g L' h5 foot5 := fun p hp => N5 p (List.mem_append_left _ hp)
        obtain ⟨ob, vs, mN, q1, q2, q3, q4, q5⟩ := exc_raisable X' F5 N6 hI
        refine ⟨e, ob, vs, mN, rfl, q1, q2, q3, q4, q5, ?_⟩
        refine flew_first B' rfl rfl F5 N6 hI fun h' z => hE ?_ e h' _ z
        rw [hs, readF_nil (by simp only [List.length_drop]; omega)]
        simp only [manyF, Option.map_some, List.append_nil, Option.bind_some]
        rw [if_neg (by omega)]
      · with_reducible rename Fr _ _ _ _ => F4
        with_reducible rename News _ _ _ _ => N4
        refine ⟨_, _, _, _, rfl, F4, N4, fs, ?_, ?_⟩
        · rw [hs, readF_nil (by simp only [List.length_drop]; omega)]
          simp only [manyF, Option.map_some, List.append_nil, Option.bind_some]
          rw [if_pos (by omega)]
        · exact DatIn.list (List.mem_cons_self ..) (hD.mono (fun p hp => by cases hp))


theorem read_none_ct (w : World) (data : List UInt8) (t : Tok) (hz : data.length ≤ 100000) :
    Ct w 6 103 [] [.bytes data.toArray t, .none] (fun r foot' => ∃ fs, manyF none (readF data) = some fs ∧ DatIn foot' r (.list (fs.map fieldDat))) (manyF none (readF data) = none) := read_ct w data none t 0 hz
theorem read_many_ct (w : World) (data : List UInt8) (many : Nat) (t u : Tok) (hz : data.length ≤ 100000) :
    Ct w 6 103 [] [.bytes data.toArray t, .int many u] (fun r foot' => ∃ fs, manyF (some many) (readF data) = some fs ∧ DatIn foot' r (.list (fs.map fieldDat))) (manyF (some many) (readF data) = none) := read_ct w data (some many) t u hz
end
-- LO
section
section
variable {prog : Program} {w : World} {A : Around} {E : Value → Shared → Prop} {h : Heap} {g : Array GenState} {d : Drawn} {t : Nat} {os : OsState} {mN mA : PySem.Str → Option Value} {x dx : Addr} {name : PySem.Str} {v : Value} {o : Obj}

theorem q_load_entry {tk : Tok} {Q : Fin → Shared → Prop} (X : QCls h mN) (hna : mN name = none) (hB : typeLookup (.type "Exception") name = pure none) (hx : h.get? x = some o) (hc : o.cls = .ref 31) (hnc : ∀ c, o.data ≠ .cls c) (hd : o.dict = some dx) (hn : h.Ns1 dx mA) (hv : mA name = some v)
    (hq : Q (.done (.ret v)) ⟨h, g, d, t, os⟩) : wpAny (model prog w) A (Builtin.«object.__getattribute__» ⟨[.ref x, .str name tk], []⟩) Q E ⟨h, g, d, t, os⟩ := by
  obtain ⟨nm, q, bs, sn, sub, ab, col, dd, k0, k1, k2, k3, k5, hC⟩ := X.cls
  have hN := X.ns
  have SF := PySem.F.store_Exception
  unfold Builtin.«object.__getattribute__»
  repeat (first | (with_reducible refine wpAny_loadPart_at hx ?_; rw [hc]) | with_reducible refine wpAny_mroOf_exc hC ?_ | (with_reducible refine wpAny_typeLookup_exc hC hN SF.mro hB ?_; rw [hna]) | wp_step)
  split
  · rename_i c hcd
    exact absurd hcd (hnc c)
  unfold instanceDict
  repeat (first | (with_reducible refine wpAny_loadPart_at hx ?_; rw [hc]) | with_reducible refine wpAny_loadPart_at hC ?_ | wp_step)
  rw [hd]
  repeat (first | (with_reducible refine wpAny_nsGet hn.ns ?_; rw [hv]) | wp_step)
  exact hq

theorem q_load_check {M : Model} {nameV : Value} {Q : Unit → Shared → Prop} (X : QCls h mN) (hx : h.get? x = some o) (hc : o.cls = .ref 31) (hq : Q () ⟨h, g, d, t, os⟩) :
    wpAny M A (checkBuiltinCall "BaseException.__getattribute__" ⟨[.ref x, nameV], []⟩) Q E ⟨h, g, d, t, os⟩ := by
  obtain ⟨nm, q, bs, sn, sub, ab, col, dd, k0, k1, k2, k3, k5, hC⟩ := X.cls
  exact @wpAny_check_ga_own A E h g d t os x o nm q 31 30 bs _ _ true sn sub ab col dd k0 k1 k2 k3 k5 "Exception" "Exception.__new__" M nameV Q PySem.F.attrBase_Exception hC .base hx hc hq

theorem q_load {expr : Bool} {Q : Value → Shared → Prop} (X : QCls h mN) (hna : mN name = none) (hB : typeLookup (.type "Exception") name = pure none) (hx : h.get? x = some o) (hc : o.cls = .ref 31) (hnc : ∀ c, o.data ≠ .cls c) (hd : o.dict = some dx) (hn : h.Ns1 dx mA) (hv : mA name = some v)
    (hh : handedOut v = pure v) (hq : Q v ⟨h, g, d, t + 1, os⟩) : wpAny (model prog w) A (getAttr (.ref x) name expr) Q E ⟨h, g, d, t, os⟩ := by
  have FB := PySem.F.attrBase_Exception
  have f3 := FB.ga.bind (.ref x)
  obtain ⟨nm, q, bs, sn, sub, ab, col, dd, k0, k1, k2, k3, k5, hC⟩ := X.cls
  unfold getAttr
  refine wpAny_bind (wpAny_mkText ?_)
  unfold getAttrBy
  refine wpAny_holding (wpAny_bind ?_)
  unfold typeOf
  dsimp only
  refine wpAny_bind (wpAny_loadPart_at hx ?_)
  rw [hc]
  refine wpAny_pure (wpAny_bind ?_)
  refine wpAny_typeLookup_exc hC X.ns FB.mro FB.ga.lookup ?_
  rw [X.ga]
  dsimp only
  have hx2 : (Value.builtin "BaseException.__getattribute__" == Value.builtin "object.__getattribute__") = false := by decide +kernel
  have hx1 : (onTheHeap (Value.ref 31) && Value.builtin "BaseException.__getattribute__" == Value.builtin "object.__getattribute__") = false := by rw [hx2]; rfl
  rw [hx1, if_neg (by decide)]
  unfold getAttrByItsOwn hookBefore
  rw [if_pos (show onTheHeap (Value.ref 31) = true from rfl)]
  refine wpAny_bind (wpAny_typeLookup_exc hC X.ns FB.mro FB.noGetattr ?_)
  rw [X.gh]
  have hx0 : (expr && onTheHeap (Value.builtin "BaseException.__getattribute__")) = false := by cases expr <;> rfl
  unfold callGetattribute
  rw [hx0, if_neg (by decide)]
  unfold boundAndCalled
  rw [f3]
  refine wpAny_bind (wpAny_attempt (wpAny_holding (wpAny_bind (wpAny_pure ?_))))
  refine wpAny_call ?_
  show codeAny (model prog w) A (.call (.builtin "BaseException.__getattribute__") ⟨[.ref x, .str name t], []⟩) _ _
  refine codeAny_call_builtin FB.ga.plain PySem.F.entry_bexc_ga (q_load_check X hx hc (q_load_entry X hna hB hx hc hnc hd hn hv ?_))
  show wpAny _ _ (handedOut v) _ _ _
  rw [hh]
  exact wpAny_pure hq
end
end
-- TN
section
/-! contracts of defs that catch: the frames below have turned, in their slots alone -/
noncomputable def CtT (w : World) (D : Nat) (f : Addr) (foot need : Led) (vs : List Value) (Post : Value → Led → Prop) : Prop :=
  ∀ (p : Program) (loose : List PySem.Str) (mean : ExcName → Option Value) (mg mb : PySem.Str → Option Value) (dp un : Nat) (gd : Option (List Code)) (cn : PySem.Str) (cs : Scope) (a : Addr) (ccd : Value) (cl : List (PySem.Str × Addr)) (outer : List Env)
    (A₀ : Around) (base h₀ : Heap) (L : Addr) (m : PySem.Str → Option Value) (rest : Led) (s : Shared) (Q E : Value → Shared → Prop),
    Below A₀ base outer h₀ → Fr h₀ L s.heap m → (htop.heap_1 w.params).In base → News h₀ L s.heap (foot ++ rest) → Apart foot rest → (∀ q ∈ need, q ∈ rest) → Top p loose mean mg mb base → cs.kind = .function → dp + D < recursionLimit → un + 40 * D < cLine →
    (∀ r h' tk' foot' h₀', KtsTurn (framesOf outer) h₀ h₀' → Fr h₀' L h' m → News h₀' L h' (foot' ++ rest) → Apart foot' rest → Post r foot' → Q r { s with heap := h', toks := tk' }) →
    wpAny (model PR w) (ktrTop dp un gd cn cs L a ccd cl outer) (call (.ref f) vs) Q E s

noncomputable def BackT (fs : List Addr) (g : Heap) (L : Addr) (s₁ : Shared) (Post : Value → Led → Prop) (fl : Flow) (s' : Shared) : Prop :=
  ∃ g' h' tk' m' foot', KtsTurn fs g g' ∧ s' = { s₁ with heap := h', toks := tk' } ∧ Fr g' L h' m' ∧ News g' L h' foot' ∧ Post (match fl with | .ret v => v | _ => .none) foot'

theorem below_turn {A₀ : Around} {base g g' : Heap} {outer : List Env} (B : Below A₀ base outer g) (T : KtsTurn (framesOf outer) g g') : Below A₀ base outer g' := by
  refine ⟨B.stack, fun b o q => ?_, B.frames.of_keeps fun b o q _ => ?_⟩
  · refine T.other b o (B.stays b o q) fun m => ?_
    rw [(B.frames.mem m).1] at q; cases q
  · obtain ⟨sl, hs⟩ := T.up q
    exact ⟨_, hs, rfl⟩

section
variable {A₀ A : Around} {s : Shared} {base h₀ : Heap} {outer : List Env} {env : Env} {L : Addr} {m : PySem.Str → Option Value} {foot rest : Led}

/-- back in the caller, when frames have turned -/
theorem lend_backT (B : Below A₀ base outer h₀) (F : Fr h₀ L s.heap m) (N : News h₀ L s.heap (foot ++ rest)) (ap : Apart foot rest) (G : Lent A base h₀ s.heap env outer L m foot rest) (hf : env.frame = some L)
    {g' h' : Heap} {foot' : Led} (T : KtsTurn (framesOf (env :: outer)) (groundOf s.heap foot) g') (k : g'.StaysIn h') (hfoot : ∀ p ∈ foot', h'.get? p.1 = some p.2 ∧ g'.get? p.1 = none) :
    ∃ h₀', KtsTurn (framesOf outer) h₀ h₀' ∧ Fr h₀' L h' m ∧ News h₀' L h' (foot' ++ rest) ∧ Apart foot' rest := by
  have hL₀ := kts_self F
  have nm : ∀ b, b ∈ framesOf (env :: outer) → b = L ∨ b ∈ framesOf outer := fun b hb => by
    unfold framesOf at hb
    rw [List.filterMap_cons, hf] at hb
    exact List.mem_cons.mp hb
  have nm' : ∀ b, b = L ∨ b ∈ framesOf outer → b ∈ framesOf (env :: outer) := fun b hb => by
    unfold framesOf
    rw [List.filterMap_cons, hf]
    exact List.mem_cons.mpr hb
  have up : ∀ b o, h₀.get? b = some o → b ∉ framesOf outer → h'.get? b = some o := fun b o q n => by
    refine k b o (T.other b o (G.up b o q) fun r => ?_)
    rcases nm b r with r | r
    · rw [r, hL₀] at q; cases q
    · exact n r
  have upf : ∀ b o, h₀.get? b = some o → b ∈ framesOf outer → ∃ sl, h'.get? b = some { o with slots := sl } := fun b o q n => by
    obtain ⟨sl, hs⟩ := T.frame b o (G.up b o q) (nm' b (.inr n))
    exact ⟨sl, k _ _ hs⟩
  obtain ⟨T₀, k₀⟩ := kts_turn_at (fs := framesOf outer) (g := h₀) (h := h') (fun b hb => let ⟨_, o, q, _⟩ := B.frames.mem hb; ⟨o, q⟩) up upf
  obtain ⟨oL, es, ep, r1, r2, r3, r4⟩ := G.fr.ns
  obtain ⟨sl, hs⟩ := T.frame L oL r1 (nm' L (.inl rfl))
  have F' : Fr (ktsHeap h' (framesOf outer) h₀) L h' m := ⟨⟨_, es, ep, k _ _ hs, r2, r3, r4⟩, k₀, by rw [T₀.size]; exact F.above⟩
  have restIn : ∀ q ∈ rest, g'.get? q.1 = some q.2 := fun q hq => by
    have n := N q (List.mem_append_right _ hq)
    refine T.other _ _ (hideAll_get _ n.1 fun hm => ?_) fun r => ?_
    · obtain ⟨p, hp, e⟩ := List.mem_map.mp hm
      exact ap p hp q hq e
    · rcases nm _ r with r | r
      · exact n.2.1 r
      · obtain ⟨_, o, q', _⟩ := B.frames.mem r
        rw [n.2.2] at q'; cases q'
  refine ⟨_, T₀, F', fun p hp => ?_, fun p hp q hq e => ?_⟩
  · rcases List.mem_append.mp hp with hp | hp
    · obtain ⟨h1, h2⟩ := hfoot p hp
      refine ⟨h1, fun e => ?_, T₀.none_ _ ?_⟩
      · rw [e, hs] at h2; cases h2
      · cases q : h₀.get? p.1 with
        | none => rfl
        | some o =>
          obtain ⟨sl', hs'⟩ := T.up (G.up _ _ q)
          rw [hs'] at h2; cases h2
    · have n := N p (List.mem_append_right _ hp)
      exact ⟨k _ _ (restIn p hp), n.2.1, T₀.none_ _ n.2.2⟩
  · have := restIn q hq
    rw [← e, (hfoot p hp).2] at this; cases this
end

section
variable {w : World} {A₀ : Around} {base h₀ : Heap} {outer : List Env} {L f : Addr} {m : PySem.Str → Option Value} {s : Shared} {foot rest need : Led} {D : Nat} {vs : List Value}
  {name qual : PySem.Str} {params : Arguments} {body : List Stmt} {scope : Scope} {dV kV doc pm cdv ct oc : Value} {an od : Option Addr} {osl : Array (Option Value)} {binds : List (PySem.Str × Value)}
theorem ct_defT {Post : Value → Led → Prop}
    (ho : (htop.heap_1 w.params).lookup f = some ⟨oc, od, .func (fnOf name qual params body scope dV kV doc pm an cdv ct), osl⟩)
    (hcd : codeIn (htop.heap_1 w.params) cdv qual = true)
    (hbind : bindArgs (fnOf name qual params body scope dV kV doc pm an cdv ct) ⟨vs, []⟩ = pure binds)
    (hkind : (binds.all fun y => scope.names.lookup y.1 == some .local || scope.names.lookup y.1 == some .cell) = true)
    (hnd : ((cellsFrom 0 scope.names []).map (·.1)).Nodup)
    (hb : ∀ (p : Program) (loose : List PySem.Str) (mean : ExcName → Option Value) (mg mb : PySem.Str → Option Value) (dp un : Nat) (gd : Option (List Code)) (cn : PySem.Str) (cs : Scope) (L a : Addr) (ccd : Value) (cl : List (PySem.Str × Addr)) (outer : List Env) (base g : Heap) (L' : Addr) (s₁ : Shared) (E : Value → Shared → Prop) (cells : Led),
      cs.kind = .function → CellStart g L' s₁.heap qual scope f cdv binds foot cells → Below (ktrTop dp un gd cn cs L a ccd cl outer) base (envX cn cs L a ccd cl :: outer) g → (htop.heap_1 w.params).In base → Top p loose mean mg mb base → (∀ q ∈ need, g.get? q.1 = some q.2) → dp + (D + 1) < recursionLimit → un + 40 * (D + 1) < cLine →
      wpAny (model PR w) ((ktrTop dp un gd cn cs L a ccd cl outer).deeper (envOfC qual scope L' f cdv)) (execs body (envOfC qual scope L' f cdv)) (BackT (framesOf (envX cn cs L a ccd cl :: outer)) g L' s₁ Post) (fun _ _ => False) s₁)
    (hco : scope.isCoroutine = false := by rfl) (hgen : scope.isGenerator = false := by rfl) (hk : scope.kind = .function := by rfl) : CtT w (D + 1) f foot need vs Post := by
  intro p loose mean mg mb dp un gd cn cs a ccd cl outer A₀ base h₀ L m rest s Q E B F X N ap hneed T hck hd hu hQ
  refine wpAny_call ?_
  have G := lend (A := ktrTop dp un gd cn cs L a ccd cl outer) B F N ap rfl rfl hck
  have X₀ : (htop.heap_1 w.params).In h₀ := X.keeps B.stays
  have T₀ := T.keeps B.stays
  refine codeAny_call_function (show dp < recursionLimit by omega) ((X₀.keeps F.keep) _ _ ho) rfl hco hgen rfl (codeRec_of (X₀.keeps F.keep) hcd) (wpAny_of_eq hbind ?_)
  refine wpAny_newFunctionEnv_cells hk (kindsX hkind _) fun env' he s' x => ?_
  obtain ⟨h₁, tk, cells, rfl, hk₁, Z⟩ := cell_start (rest := rest) N hnd he x
  subst he
  refine ⟨(T₀.nolimit.keeps F.keep).keeps hk₁, codeAny_func ?_⟩
  have restIn : ∀ q ∈ need, (groundOf s.heap foot).get? q.1 = some q.2 := fun q hq => hideAll_get _ (N q (List.mem_append_right _ (hneed q hq))).1 fun hm => by
    obtain ⟨p, hp, e⟩ := List.mem_map.mp hm
    exact ap p hp q (hneed q hq) e
  refine wpAny_mono (hb p loose mean mg mb dp un gd cn cs L a ccd cl outer base (groundOf s.heap foot) s.heap.objs.size { s with heap := h₁, toks := tk } E cells hck Z G.below X T restIn hd hu) (fun fl s' hl => ?_) fun _ _ y => y.elim
  obtain ⟨g', h', tk', m', foot', T', rfl, F₂, N₂, hP⟩ := hl
  obtain ⟨h₀', T₁, F₃, N₃, ap₃⟩ := lend_backT B F N ap G rfl T' F₂.keep (fun q hq => ⟨(N₂ q hq).1, (N₂ q hq).2.2⟩)
  exact hQ _ h' tk' foot' h₀' T₁ F₃ N₃ ap₃ hP
end
end
-- CD
section
local macro_rules | `(tactic| walk_at "call ref") => `(tactic| ((with_reducible show wpAny _ _ (call (Value.ref _) _) _ _ _); refine Halt.go ?_))
local macro_rules | `(tactic| walk_at "exec Try") => `(tactic| (refine Halt.go ?_))
local macro_rules | `(tactic| walk_at "getAttr ref") => `(tactic| (refine Halt.go ?_))
/-- what a def with no arguments, made at run time, does when it is called: it raises -/
noncomputable def LamR (w : World) (D : Nat) (f : Addr) (objs : Led) : Prop :=
  ∀ (p : Program) (loose : List PySem.Str) (mean : ExcName → Option Value) (mg mb : PySem.Str → Option Value) (dp un : Nat) (gd : Option (List Code)) (cn : PySem.Str) (cs : Scope) (a : Addr) (ccd : Value) (cl : List (PySem.Str × Addr)) (outer : List Env)
    (A₀ : Around) (base h₀ : Heap) (L : Addr) (m : PySem.Str → Option Value) (s : Shared) (Q E : Value → Shared → Prop),
    Below A₀ base outer h₀ → Fr h₀ L s.heap m → (htop.heap_1 w.params).In h₀ → Top p loose mean mg mb h₀ → (∀ q ∈ objs, s.heap.get? q.1 = some q.2) → cs.kind = .function → dp + D < recursionLimit → un + 40 * D < cLine →
    (∀ e h' tk', Flew (framesOf (envX cn cs L a ccd cl :: outer)) s.heap h' e → E (.ref e) { s with heap := h', toks := tk' }) →
    wpAny (model PR w) (ktrTop dp un gd cn cs L a ccd cl outer) (call (.ref f) []) Q E s

/-- what the object of such a def must be -/
noncomputable abbrev FnObj (f : Addr) (objs : Led) : Prop := ∃ oc od fd sl, (f, (⟨oc, od, .func fd, sl⟩ : Obj)) ∈ objs
/-- the exception, caught, as a ledger -/
structure Caught (e : Addr) (d T : Addr) (oe od oT : Obj) : Prop where
  cls : oe.cls = .ref 31
  dict : oe.dict = some d
  fields : ∃ vs, oe.data = .fields vs ∧ vs[1]? = some (.ref T)
  ed : d ≠ e
  eT : T ≠ e
  dT : d ≠ T
  code : ∃ mA t, NsObj1 od mA ∧ mA "code" = some (.int 306 t)
  tb : ∃ ts, oT.data = .fields ts ∧ 3 < ts.size

theorem land_q {w : World} {A : Around} {A₀ : Around} {outer : List Env} {base g h : Heap} {env : Env} {L' e : Addr} {m : PySem.Str → Option Value} {s : Shared} {Q : Unit → Shared → Prop} {E' : Value → Shared → Prop}
    (B : Below A₀ base outer g) (hfr : A.frames = some (env :: outer)) (hf : env.frame = some L') (hk : env.scope.kind = .function) (F : Fr g L' h m) (Y : Flew (framesOf (env :: outer)) h s.heap e)
    (hQ : ∀ h' g' d T oe od oT, KtsTurn (framesOf outer) g g' → Fr g' L' h' m → News g' L' h' [(e, oe), (d, od), (T, oT)] → Caught e d T oe od oT → Q () { s with heap := h' }) :
    wpAny (model PR w) A (noteFrame (.ref e) env) (fun _ s' => wpAny (model PR w) A (setFlight (.ref e) none) Q E' s') E' s := by
  obtain ⟨d, oe, T₀, X, hl, hT₀, hd⟩ := Y.there
  have hLg := kts_self F
  have nm : ∀ b, b ∈ framesOf (env :: outer) → b = L' ∨ b ∈ framesOf outer := fun b hb => by
    unfold framesOf at hb
    rw [List.filterMap_cons, hf] at hb
    exact List.mem_cons.mp hb
  have nm' : ∀ b, b = L' ∨ b ∈ framesOf outer → b ∈ framesOf (env :: outer) := fun b hb => by
    unfold framesOf
    rw [List.filterMap_cons, hf]
    exact List.mem_cons.mpr hb
  obtain ⟨oL, es', ep', r1, r2, r3, r4⟩ := F.ns
  have inh : ∀ b, b ∈ framesOf (env :: outer) → ∃ o, h.get? b = some o := fun b hb => by
    rcases nm b hb with r | r
    · exact ⟨oL, r ▸ r1⟩
    · obtain ⟨_, o, q, _⟩ := B.frames.mem r
      exact ⟨o, F.keep _ _ q⟩
  have hl' : s.heap.FunFrames base (env :: outer) := by
    obtain ⟨sl, hs⟩ := Y.frame L' oL r1 (nm' L' (.inl rfl))
    refine ⟨by rw [hk]; decide, ⟨L', _, hf, ?_, hs, fun vs q => by
      have : oL.data = .fields vs := q
      rw [r2] at this; cases this⟩, B.frames.of_keeps fun b o q _ => ?_⟩
    · cases q : base.get? L' with
      | none => rfl
      | some o => have := B.stays _ _ q; rw [hLg] at this; cases this
    · by_cases n : b ∈ framesOf (env :: outer)
      · obtain ⟨sl', hs'⟩ := Y.frame b o (F.keep b o q) n
        exact ⟨_, hs', rfl⟩
      · exact ⟨o, Y.other b o (F.keep b o q) n, rfl⟩
  obtain ⟨vs, hv, h1⟩ := X.fields
  refine my_leaveN hfr hl' hf X.at_ hv h1 hl fun h' T z => ?_
  have neg : ∀ b o c, h.get? b = some o → h.get? c = none → b ≠ c := fun b o c q n r => by
    rw [r, n] at q; cases q
  have old : ∀ b o, h.get? b = some o → b ∉ framesOf (env :: outer) → h'.get? b = some o := fun b o q n =>
    z.other b o (Y.other b o q n) (neg _ _ _ q Y.new) (fun r => by cases r; exact neg _ _ _ q hT₀ rfl) n
  have oldf : ∀ b o, h.get? b = some o → b ∈ framesOf (env :: outer) → ∃ sl, h'.get? b = some { o with slots := sl } := fun b o q n => by
    obtain ⟨sl, hs⟩ := Y.frame b o q n
    obtain ⟨sl', hs'⟩ := z.frame b _ hs n
    exact ⟨sl', hs'⟩
  obtain ⟨T₁, k₁⟩ := kts_turn_at (fs := framesOf outer) (g := g) (h := h') (fun b hb => let ⟨_, o, q, _⟩ := B.frames.mem hb; ⟨o, q⟩)
    (fun b o q n => old b o (F.keep b o q) fun r => by
      rcases nm b r with r | r
      · rw [r, hLg] at q; cases q
      · exact n r)
    (fun b o q n => oldf b o (F.keep b o q) (nm' b (.inr n)))
  obtain ⟨slL, hsL⟩ := oldf L' oL r1 (nm' L' (.inl rfl))
  obtain ⟨mA, t, ⟨od, es, ep, q1, q2, q3, q4, q5⟩, hcode⟩ := X.code
  have hdfs : d ∉ framesOf (env :: outer) := fun r => by
    obtain ⟨o, q⟩ := inh d r
    rw [hd] at q; cases q
  have hdT₀ : (Value.ref T₀) ≠ .ref d := fun r => by
    cases r
    rcases hl with r | ⟨T', oT, ts, r, _, a1, a2, _⟩
    · cases r
    · cases r
      rw [a1] at q1; cases q1; rw [a2] at q2; cases q2
  have hd' : h'.get? d = some od := z.other d od q1 X.ne hdT₀ hdfs
  obtain ⟨oT, ts, t1, t2, t3⟩ := z.entry
  have hgT : g.get? T = none := by
    cases q : g.get? T with
    | none => rfl
    | some o =>
      have q' := F.keep _ _ q
      by_cases n : T ∈ framesOf (env :: outer)
      · obtain ⟨sl, hs⟩ := Y.frame T o q' n
        rw [z.fresh] at hs; cases hs
      · have := Y.other T o q' n
        rw [z.fresh] at this; cases this
  have hTL : T ≠ L' := fun r => by
    obtain ⟨sl, hs⟩ := Y.frame L' oL r1 (nm' L' (.inl rfl))
    rw [← r, z.fresh] at hs; cases hs
  have hLe : e ≠ L' := fun r => by
    have := Y.new
    rw [r, r1] at this; cases this
  have hLd : d ≠ L' := fun r => by rw [r, r1] at hd; cases hd
  refine hQ h' _ d T _ od oT T₁ ⟨⟨_, es', ep', hsL, r2, r3, r4⟩, k₁, by rw [T₁.size]; exact F.above⟩ (fun q hq => ?_) ⟨(Obj.cls_mapFields _ _).trans X.cls, (dict_mapFields _ _).trans X.dict, fields_set hv (Array.getElem?_eq_some_iff.mp h1).1 T, X.ne, z.ne, fun r => ?_, ⟨mA, t, ⟨es, ep, q2, q3, q4, q5⟩, hcode⟩, ⟨ts, t2, (Array.getElem?_eq_some_iff.mp t3).1⟩⟩
  · simp only [List.mem_cons, List.not_mem_nil, or_false] at hq
    rcases hq with rfl | rfl | rfl
    · exact ⟨z.at_, hLe, T₁.none_ _ (kts_none F.keep Y.new)⟩
    · exact ⟨hd', hLd, T₁.none_ _ (kts_none F.keep hd)⟩
    · exact ⟨t1, hTL, T₁.none_ _ hgT⟩
  · rw [r, z.fresh] at q1; cases q1

theorem again_q {M : Model} {A : Around} {g : Heap} {L' e d T : Addr} {oe od oT : Obj} {m : PySem.Str → Option Value} {s : Shared} {Q : Unit → Shared → Prop} {E' : Value → Shared → Prop}
    (F : Fr g L' s.heap m) (N : News g L' s.heap [(e, oe), (d, od), (T, oT)]) (C : Caught e d T oe od oT)
    (hQ : ∀ h' oT', Fr g L' h' m → News g L' h' [(e, oe), (d, od), (T, oT')] → Caught e d T oe od oT' → Q () { s with heap := h' }) : wpAny M A (setFlight (.ref e) none) Q E' s := by
  obtain ⟨vs, hv, h1⟩ := C.fields
  obtain ⟨ts, ht, h3⟩ := C.tb
  have ne := N (e, oe) (by simp)
  have nd := N (d, od) (by simp)
  have nT := N (T, oT) (by simp)
  unfold setFlight
  refine wpAny_bind (wpAny_field ne.1 hv h1 ?_)
  rw [if_pos (show (Value.ref T != Value.none) = true from by simp)]
  refine wpAny_setField nT.1 ht h3 (hQ _ (oT.mapFields (·.setIfInBounds 3 .none)) ?_ ?_ ⟨C.cls, C.dict, C.fields, C.ed, C.eT, C.dT, C.code, ⟨_, Obj.data_mapFields ht _, by simp [h3]⟩⟩)
  · exact LCg.fr_but F (I := T) (fun b o hb q => by
      rw [Heap.get?_update_other _ _ (fun z => hb (by simp [z]))]; exact q) (Ne.symm nT.2.1) nT.2.2
  · intro q hq
    simp only [List.mem_cons, List.not_mem_nil, or_false] at hq
    rcases hq with rfl | rfl | rfl
    · exact ⟨(Heap.get?_update_other _ _ C.eT).trans ne.1, ne.2⟩
    · exact ⟨(Heap.get?_update_other _ _ (Ne.symm C.dT)).trans nd.1, nd.2⟩
    · exact ⟨Heap.get?_update_self _ nT.1 (Obj.isFreed_of_fields (Obj.data_mapFields ht _)), nT.2⟩
set_option maxHeartbeats 2000000 in
theorem code_ct (w : World) (D : Nat) (f : Addr) (objs : Led) (H : LamR w D f objs) (hfn : FnObj f objs) :
    CtT w (D + 1) 162 [] objs [.ref f] (fun r foot' => foot' = [] ∧ ∃ t, r = .int 306 t) := by
  refine' ct_defT (binds := [("work", .ref f)]) ?ho ?hcd ?hbind ?hkind ?hnd ?_ ?hco ?hgen ?hk
  case ho => k_dflt k_is
  case hcd => k_dflt k_is
  case hbind => with_unfolding_all rfl
  case hkind => rfl
  case hnd => decide
  case hco => rfl
  case hgen => rfl
  case hk => rfl
  intro p loose mean mg mb dp un gd cn cs L a ccd cl outer base g L' s₁ E cells hck Z B' XB TB hneed hd hu
  have X' := XB.keeps B'.stays
  have T' := TB.keeps B'.stays
  obtain ⟨F', N', are, low⟩ := Z
  k_steps
  unfold Halt
  refine wpAny_Try_except ?_
  k_steps
  obtain ⟨oc0, od0, fd0, sl0, hof⟩ := hfn
  refine callWith_F0 ?fa ?_
  case fa => exact ⟨_, _, _, _, F'.keep _ _ (hneed _ hof)⟩
  refine H p loose mean mg mb _ _ _ _ _ _ _ _ _ _ base g L' _ _ _ _ B' (by assumption) X' T' (fun q hq => ?_) rfl ?hd ?hu fun e h1 tk1 Y => ?_
  case hd => dsimp only [ktrTop, Around.deeper, Around.in1] at *; omega
  case hu => dsimp only [ktrTop, Around.deeper, Around.in1] at *; omega
  · exact F'.keep _ _ (hneed q hq)
  refine land_q B' (Around.frames_deeper B'.stack) rfl rfl F' Y fun h2 g2 d T oe od oT T2 F2 N2 C2 => ?_
  have B2 := below_turn B' T2
  have X2 := XB.keeps B2.stays
  have TT2 := TB.keeps B2.stays
  obtain ⟨mN, QC⟩ := qcls_of X2
  refine wpAny_handleBy_cons (codeAny_handlers_test ?_) (by intro q; cases q)
  walk1
  obtain ⟨nm, q, bs, sn, sub, ab, col, dd, k0, k1, k2, k3, k5, hC⟩ := QC.cls
  refine wpAny_excMatches_sub_self (C := 31) (N := 30) (nm := nm) (q := q) (bs := bs) (sn := sn) (sub := sub) (ab := ab) (col := col) (dd := dd) (k0 := k0) (k1 := k1) (k2 := k2) (k3 := k3) (k5 := k5) (hdct := true) (bm := [.type "Exception", .type "BaseException", .type "object"]) (newId := "Exception.__new__") (F2.keep _ _ hC) (N2 (e, oe) (by simp)).1 C2.cls (by decide +kernel) ?_
  refine codeAny_handlers_suite_as ?_
  refine again_q F2 N2 C2 fun h3 oT3 F3 N3 C3 => ?_
  refine stN F3 N3 (fun h4 F4 N4 => ?_) rfl rfl
  k_steps
  unfold Halt
  obtain ⟨vs, hv, hv1⟩ := C3.fields
  obtain ⟨mA, t, ⟨es, ep, q1, q2, q3, q4⟩, hcode⟩ := C3.code
  refine q_load (QC.keeps F4.keep) QC.code tl_code (N4 (e, oe) (by simp)).1 C3.cls (fun c z => by rw [hv] at z; cases z) C3.dict ⟨od, es, ep, (N4 (d, od) (by simp)).1, q1, q2, q3, q4⟩ hcode rfl ?_
  dsimp only
  refine name_goes F4 N4 (fun h5 m5 F5 N5 => ?_) rfl rfl
  exact ⟨g2, h5, _, m5, [], T2, rfl, F5, News.nil, rfl, t, rfl⟩
end
-- RR
section
local macro_rules | `(tactic| walk_at "call ref") => `(tactic| ((with_reducible show wpAny _ _ (call (Value.ref _) _) _ _ _); refine Halt.go ?_))
local macro_rules | `(tactic| walk_at "exec Raise some none") => `(tactic| (refine raise_q rfl ?_))
/-- what a client hello's body says -/
noncomputable def rchF (d : List UInt8) : Option (List UInt8 × List (List UInt8) × List UInt8) :=
  match manyF (some 3) (readF d) with
  | some [r, s, p] => if r.length = 8 then (readF s).map fun l => (r, l, p) else none
  | _ => none
noncomputable def rshF (d : List UInt8) : Option (List UInt8) :=
  match manyF (some 1) (readF d) with
  | some [r] => if r.length = 8 then some r else none
  | _ => none
noncomputable def rexF (d : List UInt8) : Option (List UInt8 × List UInt8) :=
  match manyF (some 2) (readF d) with
  | some [a, b] => some (a, b)
  | _ => none
theorem manyF_length {n : Nat} {r : Option (List (List UInt8))} {fs : List (List UInt8)} (h : manyF (some n) r = some fs) : fs.length = n := by
  cases r with
  | none => cases h
  | some l =>
    simp only [manyF, Option.bind_some] at h
    split at h
    · cases h; assumption
    · cases h
theorem manyF_some {m : Option Nat} {r : Option (List (List UInt8))} {fs : List (List UInt8)} (h : manyF m r = some fs) : r = some fs := by
  cases r with
  | none => cases h
  | some l =>
    cases m with
    | none => exact h
    | some n =>
      simp only [manyF, Option.bind_some] at h
      split at h
      · exact h
      · cases h
theorem datAll_bytes {news : Led} : ∀ {vs : List Value} {fs : List (List UInt8)}, DatAll news vs (fs.map fieldDat) → ∃ ts : List Tok, ts.length = fs.length ∧ vs = List.zipWith (fun f t => Value.bytes f.toArray t) fs ts
  | _, [], .nil => ⟨[], rfl, rfl⟩
  | _, f :: r, .cons hd tl => by
    obtain ⟨ts, e, q⟩ := datAll_bytes (fs := r) tl
    cases hd with
    | bytes _ t => exact ⟨t :: ts, by simp [e], by simp [q]⟩
theorem readF_fit : ∀ (n : Nat) (d : List UInt8), d.length ≤ n → ∀ fs, readF d = some fs → ∀ x ∈ fs, x.length ≤ d.length := by
  intro n
  induction n with
  | zero =>
    intro d hd fs h
    rw [readF_nil (by omega)] at h
    cases h
    intro x hx; cases hx
  | succ n ih =>
    intro d hd fs h
    by_cases h1 : d.length = 0
    · rw [readF_nil h1] at h; cases h; intro x hx; cases hx
    · by_cases h2 : d.length < 2
      · rw [readF_one h1 h2] at h; cases h
      · by_cases h3 : d.length < 2 + valOf (d.take 2)
        · rw [readF_short h1 h2 h3] at h; cases h
        · rw [readF_step h1 h2 h3] at h
          cases q : readF (d.drop (2 + valOf (d.take 2))) with
          | none => rw [q] at h; cases h
          | some r =>
            rw [q] at h
            cases h
            intro x hx
            rcases List.mem_cons.mp hx with rfl | hx
            · simp; omega
            · have := ih _ (by simp only [List.length_drop]; omega) r q x hx
              simp only [List.length_drop] at this
              omega

set_option maxHeartbeats 2000000 in
theorem read_client_ct (w : World) (body : List UInt8) (t : Tok) (hz : body.length ≤ 100000) :
    Ct w 8 115 [] [.bytes body.toArray t] (fun r foot' => ∃ x l p, rchF body = some (x, l, p) ∧ DatIn foot' r (.tuple [.bytes x.toArray, .list (l.map fieldDat), .bytes p.toArray])) (rchF body = none) := by
  refine' ct_def (binds := [("body", .bytes body.toArray t)]) ?ho ?hcd ?hbind ?hloc ?hcell ?_ ?hco ?hgen ?hk
  walk_at "mine enter"
  intro p loose mean mg mb dp un gd cn cs L a ccd cl outer base g L' s₁ E hck F' N' B' X' T' hd hu hE
  k_steps
  unfold Halt
  refine' ct_use0 (read_many_ct w body 3 t _ hz) ?B ?F ?X ?N ?T ?hk ?hd ?hu ?_ ?hbad
  walk_at "mine use"
  case hbad =>
    intro hbad e h1 tk1 Y
    refine flew_next B' rfl rfl F' Y fun h' z => hE ?_ e h' _ z
    unfold rchF; rw [hbad]
  intro r h1 tk1 foot1 F1 N1 ap1 hP
  obtain ⟨fs, hfs, hin⟩ := hP
  have h3 := manyF_length hfs
  match fs, h3 with
  | [x, y, z], _ =>
  cases hin with
  | @list l vs n ds hm hall =>
  obtain ⟨ts, ht, rfl⟩ := datAll_bytes (fs := [x, y, z]) hall
  match ts, ht with
  | [t1, t2, t3], _ =>
  have N2 : News g L' h1 [(l, PySem.W.listOf #[.bytes x.toArray t1, .bytes y.toArray t2, .bytes z.toArray t3] n)] := fun p hp => by
    rw [List.mem_singleton.mp hp]
    exact N1 _ (List.mem_append_left _ hm)
  clear N1
  dsimp only
  have hfit := readF_fit _ body (Nat.le_refl _) _ (manyF_some hfs)
  have hx : x.length ≤ 100000 := Nat.le_trans (hfit x (by simp)) hz
  have hy : y.length ≤ 100000 := Nat.le_trans (hfit y (by simp)) hz
  have hR : rchF body = if x.length = 8 then (readF y).map fun l => (x, l, z) else none := by unfold rchF; rw [hfs]
  k_steps
  · unfold Halt
    with_reducible rename Fr _ _ _ _ => F4
    with_reducible rename News _ _ _ _ => N4
    refine' ct_use0 (tls_ct w (Str.ofString "not so many random octets") _ _ (by decide)) ?B ?F ?X ?N ?T ?hk ?hd ?hu ?_ (fun z => nomatch z)
    walk_at "mine use"
    intro r h5 tk5 foot5 F5 N5 ap5 hP
    obtain ⟨e, rfl, hI⟩ := hP
    have N6 : News g L' h5 foot5 := fun p hp => N5 p (List.mem_append_left _ hp)
    obtain ⟨ob, vs, mN, q1, q2, q3, q4, q5⟩ := exc_raisable X' F5 N6 hI
    refine ⟨e, ob, vs, mN, rfl, q1, q2, q3, q4, q5, ?_⟩
    refine flew_first B' rfl rfl F5 N6 hI fun h' z => hE ?_ e h' _ z
    rw [hR, if_neg (by omega)]
  · unfold Halt
    with_reducible rename Fr _ _ _ _ => F4
    with_reducible rename News _ _ _ _ => N4
    have hx8 : x.length = 8 := by omega
    rw [if_pos hx8] at hR
    refine' ct_use0 (read_none_ct w y _ hy) ?B ?F ?X ?N ?T ?hk ?hd ?hu ?_ ?hbad
    walk_at "mine use"
    case hbad =>
      intro hbad e h1 tk1 Y
      refine flew_next B' rfl rfl F4 Y fun h' z => hE ?_ e h' _ z
      rw [hR, show readF y = none from by cases q : readF y with
        | none => rfl
        | some l => rw [q] at hbad; cases hbad]
      rfl
    intro r h5 tk5 foot5 F5 N5 ap5 hP
    obtain ⟨fl, hfl, hin⟩ := hP
    cases hin with
    | @list l2 vs2 n2 ds2 hm2 hall2 =>
    dsimp only
    k_steps
    with_reducible rename Fr _ _ _ _ => F6
    with_reducible rename News _ _ _ _ => N6
    refine ⟨_, _, _, _, rfl, F6, N6, x, fl, z, ?_, ?_⟩
    · rw [hR, manyF_some hfl]; rfl
    · refine DatIn.tuple (vs := [_, _, _]) (List.mem_cons_self ..) (.cons (.bytes _ _) (.cons (.list (List.mem_cons_of_mem _ (List.mem_append_left _ hm2)) (hall2.mono fun p hp => List.mem_cons_of_mem _ (List.mem_append_left _ hp))) (.cons (.bytes _ _) .nil)))

set_option maxHeartbeats 2000000 in
theorem read_server_ct (w : World) (body : List UInt8) (t : Tok) (hz : body.length ≤ 100000) :
    Ct w 8 129 [] [.bytes body.toArray t] (fun r foot' => ∃ x t', rshF body = some x ∧ r = .bytes x.toArray t') (rshF body = none) := by
  refine' ct_def (binds := [("body", .bytes body.toArray t)]) ?ho ?hcd ?hbind ?hloc ?hcell ?_ ?hco ?hgen ?hk
  walk_at "mine enter"
  intro p loose mean mg mb dp un gd cn cs L a ccd cl outer base g L' s₁ E hck F' N' B' X' T' hd hu hE
  k_steps
  unfold Halt
  refine' ct_use0 (read_many_ct w body 1 t _ hz) ?B ?F ?X ?N ?T ?hk ?hd ?hu ?_ ?hbad
  walk_at "mine use"
  case hbad =>
    intro hbad e h1 tk1 Y
    refine flew_next B' rfl rfl F' Y fun h' z => hE ?_ e h' _ z
    unfold rshF; rw [hbad]
  intro r h1 tk1 foot1 F1 N1 ap1 hP
  obtain ⟨fs, hfs, hin⟩ := hP
  have h3 := manyF_length hfs
  match fs, h3 with
  | [x], _ =>
  cases hin with
  | @list l vs n ds hm hall =>
  obtain ⟨ts, ht, rfl⟩ := datAll_bytes (fs := [x]) hall
  match ts, ht with
  | [t1], _ =>
  have N2 : News g L' h1 [(l, PySem.W.listOf #[.bytes x.toArray t1] n)] := fun p hp => by
    rw [List.mem_singleton.mp hp]
    exact N1 _ (List.mem_append_left _ hm)
  clear N1
  dsimp only
  have hfit := readF_fit _ body (Nat.le_refl _) _ (manyF_some hfs)
  have hx : x.length ≤ 100000 := Nat.le_trans (hfit x (by simp)) hz
  have hR : rshF body = if x.length = 8 then some x else none := by unfold rshF; rw [hfs]
  clear hall hm
  k_steps
  · unfold Halt
    with_reducible rename Fr _ _ _ _ => F4
    with_reducible rename News _ _ _ _ => N4
    refine' ct_use0 (tls_ct w (Str.ofString "not so many random octets") _ _ (by decide)) ?B ?F ?X ?N ?T ?hk ?hd ?hu ?_ (fun z => nomatch z)
    walk_at "mine use"
    intro r h5 tk5 foot5 F5 N5 ap5 hP
    obtain ⟨e, rfl, hI⟩ := hP
    have N6 : News g L' h5 foot5 := fun p hp => N5 p (List.mem_append_left _ hp)
    obtain ⟨ob, vs, mN, q1, q2, q3, q4, q5⟩ := exc_raisable X' F5 N6 hI
    refine ⟨e, ob, vs, mN, rfl, q1, q2, q3, q4, q5, ?_⟩
    refine flew_first B' rfl rfl F5 N6 hI fun h' z => hE ?_ e h' _ z
    rw [hR, if_neg (by omega)]
  · with_reducible rename Fr _ _ _ _ => F4
    exact ⟨_, _, _, [], rfl, F4, News.nil, x, _, by rw [hR, if_pos (by omega)], rfl⟩

set_option maxHeartbeats 2000000 in
theorem read_ext_ct (w : World) (body : List UInt8) (t : Tok) (hz : body.length ≤ 100000) (x y : List UInt8) (hxy : rexF body = some (x, y)) :
    Ct w 8 143 [] [.bytes body.toArray t] (fun r foot' => DatIn foot' r (.tuple [.bytes x.toArray, .bytes y.toArray])) False := by
  refine' ct_def (binds := [("body", .bytes body.toArray t)]) ?ho ?hcd ?hbind ?hloc ?hcell ?_ ?hco ?hgen ?hk
  walk_at "mine enter"
  intro p loose mean mg mb dp un gd cn cs L a ccd cl outer base g L' s₁ E hck F' N' B' X' T' hd hu hE
  k_steps
  unfold Halt
  refine' ct_use0 (read_many_ct w body 2 t _ hz) ?B ?F ?X ?N ?T ?hk ?hd ?hu ?_ ?hbad
  walk_at "mine use"
  case hbad =>
    intro hbad
    unfold rexF at hxy; rw [hbad] at hxy; cases hxy
  intro r h1 tk1 foot1 F1 N1 ap1 hP
  obtain ⟨fs, hfs, hin⟩ := hP
  have h3 := manyF_length hfs
  match fs, h3 with
  | [x', y'], _ =>
  have e : x' = x ∧ y' = y := by unfold rexF at hxy; rw [hfs] at hxy; cases hxy; exact ⟨rfl, rfl⟩
  obtain ⟨rfl, rfl⟩ := e
  cases hin with
  | @list l vs n ds hm hall =>
  obtain ⟨ts, ht, rfl⟩ := datAll_bytes (fs := [x', y']) hall
  match ts, ht with
  | [t1, t2], _ =>
  have N2 : News g L' h1 [(l, PySem.W.listOf #[.bytes x'.toArray t1, .bytes y'.toArray t2] n)] := fun p hp => by
    rw [List.mem_singleton.mp hp]
    exact N1 _ (List.mem_append_left _ hm)
  clear N1
  dsimp only
  k_steps
  with_reducible rename Fr _ _ _ _ => F6
  with_reducible rename News _ _ _ _ => N6
  exact ⟨_, _, _, _, rfl, F6, N6, DatIn.tuple (vs := [_, _]) (List.mem_cons_self ..) (.cons (.bytes _ _) (.cons (.bytes _ _) .nil))⟩
end
-- PL
section
/-! plain laws: what the readers say of what the writers wrote -/
theorem toNat_ofNat {n : Nat} (h : n < 256) : (n.toUInt8).toNat = n := by
  show (UInt8.ofNat n).toNat = n
  rw [UInt8.toNat_ofNat']
  exact Nat.mod_eq_of_lt h
theorem valOf_be2 {n : Nat} (h : n < 65536) : valOf (be2 n) = n := by
  unfold valOf be2
  simp only [List.foldl_cons, List.foldl_nil]
  rw [toNat_ofNat (by omega), toNat_ofNat (by omega)]
  omega
theorem valOf_be3 {n : Nat} (h : n < 16777216) : valOf (be3 n) = n := by
  unfold valOf be3
  simp only [List.foldl_cons, List.foldl_nil]
  rw [toNat_ofNat (by omega), toNat_ofNat (by omega), toNat_ofNat (by omega)]
  omega
theorem head3 (k : Nat) (d r : List UInt8) : (((writtenOf k d ++ r).drop 1).take 3) = be3 d.length := by
  simp [writtenOf, be3]
/-- one whole message goes first -/
theorem splitF_written {most k : Nat} {d r : List UInt8} (hk : k < 256) (hd : d.length < 16777216) (hm : d.length ≤ most) :
    splitF most (writtenOf k d ++ r) = (splitF most r).map fun x => ((k.toUInt8, d, writtenOf k d) :: x.1, x.2) := by
  have hl : (writtenOf k d ++ r).length = d.length + 4 + r.length := by rw [List.length_append, writtenOf_length]
  have hv : valOf (((writtenOf k d ++ r).drop 1).take 3) = d.length := by rw [head3, valOf_be3 hd]
  rw [splitF_one (by omega) (by omega) (by omega), hv]
  have e1 : (writtenOf k d ++ r).drop (4 + d.length) = r := by
    rw [List.drop_append_of_le_length (by rw [writtenOf_length]; omega), List.drop_of_length_le (by rw [writtenOf_length]; omega)]; rfl
  have e2 : (writtenOf k d ++ r).getD 0 0 = k.toUInt8 := rfl
  have e3 : ((writtenOf k d ++ r).drop 4).take d.length = d := by
    simp [writtenOf, be3]
  have e4 : (writtenOf k d ++ r).take (4 + d.length) = writtenOf k d := by
    rw [List.take_append_of_le_length (by rw [writtenOf_length]; omega), List.take_of_length_le (by rw [writtenOf_length]; omega)]
  rw [e1, e2, e3, e4]
theorem splitF_whole {most k : Nat} {d : List UInt8} (hk : k < 256) (hd : d.length < 16777216) (hm : d.length ≤ most) :
    splitF most (writtenOf k d) = some ([(k.toUInt8, d, writtenOf k d)], []) := by
  have := splitF_written (r := []) hk hd hm
  have h0 : splitF most [] = some ([], []) := splitF_short (by decide)
  rw [List.append_nil, h0] at this
  exact this
/-- the head that is too long -/
noncomputable def longHead (size : Nat) : List UInt8 := writtenOf 1 [97, 98] ++ (9 :: be3 size)
theorem longHead_length (size : Nat) : (longHead size).length = 10 := by simp [longHead, writtenOf, be3]
theorem long_none {most size : Nat} (h : most < size) (hs : size < 16777216) : splitF most (longHead size) = none := by
  by_cases h2 : most < 2
  · refine splitF_long (by rw [longHead_length]; omega) ?_
    have : valOf (((longHead size).drop 1).take 3) = 2 := by
      rw [longHead, head3, valOf_be3 (by decide)]; rfl
    omega
  · have e : ((9 :: be3 size).drop 1).take 3 = be3 size := by simp [be3]
    have h9 : splitF most (9 :: be3 size) = none := splitF_long (by simp [be3]) (by rw [e, valOf_be3 hs]; exact h)
    rw [longHead, splitF_written (by decide) (by decide) (by simp; omega), h9]
    rfl
theorem long_cut {most size : Nat} : splitF (2 + most) ((longHead size).take 9) = some ([(1, [97, 98], (longHead size).take 6)], ((longHead size).drop 6).take 3) := by
  have e : (longHead size).take 9 = writtenOf 1 [97, 98] ++ (9 :: (be3 size).take 2) := by simp [longHead, writtenOf, be3]
  rw [e, splitF_written (by decide) (by decide) (by simp), splitF_short (by simp [be3])]
  simp [longHead, writtenOf, be3]

theorem readF_field {d r : List UInt8} (hd : d.length < 65536) : readF (fieldOf d ++ r) = (readF r).map fun x => d :: x := by
  have hl : (fieldOf d ++ r).length = d.length + 2 + r.length := by rw [List.length_append, fieldOf_length]
  have ht : (fieldOf d ++ r).take 2 = be2 d.length := by simp [fieldOf, be2]
  have hv : valOf ((fieldOf d ++ r).take 2) = d.length := by rw [ht, valOf_be2 hd]
  rw [readF_step (by omega) (by omega) (by omega), hv]
  have e1 : (fieldOf d ++ r).drop (2 + d.length) = r := by
    rw [List.drop_append_of_le_length (by rw [fieldOf_length]; omega), List.drop_of_length_le (by rw [fieldOf_length]; omega)]; rfl
  have e2 : ((fieldOf d ++ r).drop 2).take d.length = d := by simp [fieldOf, be2]
  rw [e1, e2]
theorem readF_empty : readF [] = some [] := readF_nil rfl
theorem readF_fields : ∀ (l : List (List UInt8)), (∀ d ∈ l, d.length < 65536) → readF (l.map fieldOf).flatten = some l
  | [], _ => readF_empty
  | d :: l, h => by
    rw [List.map_cons, List.flatten_cons, readF_field (h d (by simp)), readF_fields l fun x hx => h x (by simp [hx])]; rfl
/-- the body of a client hello -/
noncomputable def helloOf (r s p : List UInt8) : List UInt8 := fieldOf r ++ fieldOf s ++ fieldOf p
theorem readF_hello {r s p q : List UInt8} (hr : r.length < 65536) (hs : s.length < 65536) (hp : p.length < 65536) : readF (helloOf r s p ++ q) = (readF q).map fun x => r :: s :: p :: x := by
  unfold helloOf
  rw [List.append_assoc, List.append_assoc, readF_field hr, readF_field hs, readF_field hp]
  simp [Option.map_map]
  rfl
theorem rch_hello {r p : List UInt8} {l : List (List UInt8)} (hr : r.length = 8) (hs : (l.map fieldOf).flatten.length < 65536) (hl : ∀ d ∈ l, d.length < 65536) (hp : p.length < 65536) :
    rchF (helloOf r (l.map fieldOf).flatten p) = some (r, l, p) := by
  have := readF_hello (q := []) (r := r) (by omega) hs hp
  rw [List.append_nil, readF_empty] at this
  unfold rchF
  rw [this]
  simp [manyF, hr, readF_fields l hl]
theorem rsh_field {r : List UInt8} (hr : r.length = 8) : rshF (fieldOf r) = some r := by
  have := readF_field (r := []) (d := r) (by omega)
  rw [List.append_nil, readF_empty] at this
  unfold rshF
  rw [this]
  simp [manyF, hr]
theorem rex_two {a b : List UInt8} (ha : a.length < 65536) (hb : b.length < 65536) : rexF (fieldOf a ++ fieldOf b) = some (a, b) := by
  have := readF_field (r := fieldOf b) (d := a) ha
  have h2 := readF_field (r := []) (d := b) hb
  rw [List.append_nil, readF_empty] at h2
  rw [h2] at this
  unfold rexF
  rw [this]
  simp [manyF]
end
-- LA
section
theorem codeHd180 {w : World} {h : Heap} (X : (htop.heap_1 w.params).In h) : CodeHd h 180 176 := by
  have e := X 180 _ (by k_dflt k_is)
  exact ⟨_, _, _, _, _, _, _, _, _, e, rfl, rfl, rfl, rfl, rfl, rfl, rfl, rfl, by decide⟩
theorem codeHd192 {w : World} {h : Heap} (X : (htop.heap_1 w.params).In h) : CodeHd h 192 190 := by
  have e := X 192 _ (by k_dflt k_is)
  exact ⟨_, _, _, _, _, _, _, _, _, e, rfl, rfl, rfl, rfl, rfl, rfl, rfl, rfl, by decide⟩
theorem lam_enter {w : World} {D : Nat} {f c' : Addr} {objs : Led} {name qual : PySem.Str} {params : Arguments} {body : PySem.Expr} {scope : Scope} {cl : List (PySem.Str × Addr)} {pm ctv : Value} {oc : Obj} {vs : Array Value} {t : Tok}
    (hf : (f, kla_obj name qual params body scope cl pm c' ctv) ∈ objs) (hc : (c', oc) ∈ objs) (hd1 : oc.data = .fields vs) (hd2 : vs[1]? = some (.str qual t))
    (hbind : bindArgs (kla_fn name qual params body scope cl pm (.ref c') ctv) ⟨[], []⟩ = pure [])
    (hb : ∀ (p : Program) (loose : List PySem.Str) (mean : ExcName → Option Value) (mg mb : PySem.Str → Option Value) (dp un : Nat) (gd : Option (List Code)) (cn : PySem.Str) (cs : Scope) (L a : Addr) (ccd : Value) (cl₀ : List (PySem.Str × Addr)) (outer : List Env) (base g : Heap) (L' : Addr) (s₁ : Shared) (E : Value → Shared → Prop),
      cs.kind = .function → Fr g L' s₁.heap (fun _ => none) → Below (ktrTop dp un gd cn cs L a ccd cl₀ outer) base (envX cn cs L a ccd cl₀ :: outer) g → (htop.heap_1 w.params).In g → Top p loose mean mg mb g → (∀ q ∈ objs, g.get? q.1 = some q.2) → dp + (D + 1) < recursionLimit → un + 40 * (D + 1) < cLine →
      (∀ e h' tk', Flew (framesOf (envX cn cs L a ccd cl₀ :: outer)) g h' e → E (.ref e) { s₁ with heap := h', toks := tk' }) →
      wpAny (model PR w) ((ktrTop dp un gd cn cs L a ccd cl₀ outer).deeper (envX qual scope L' f (.ref c') cl)) (eval body (envX qual scope L' f (.ref c') cl)) (fun _ _ => False)
        (fun e s' => wpAny (model PR w) ((ktrTop dp un gd cn cs L a ccd cl₀ outer).deeper (envX qual scope L' f (.ref c') cl)) (leaving (envX qual scope L' f (.ref c') cl) e) (fun _ s'' => E e s'') (fun e' s'' => E e' s'') s') s₁)
    (hco : scope.isCoroutine = false := by rfl) (hgen : scope.isGenerator = false := by rfl) (hk : scope.kind = .function := by rfl) (hcell : ∀ x ∈ scope.names, x.2 ≠ .cell := by decide) : LamR w (D + 1) f objs := by
  intro p loose mean mg mb dp un gd cn cs a ccd cl₀ outer A₀ base h₀ L m s Q E B F X T hobjs hck hd hu hE
  refine wpAny_call ?_
  have G := lend (foot := []) (rest := []) (A := ktrTop dp un gd cn cs L a ccd cl₀ outer) B F News.nil (fun _ z => nomatch z) rfl rfl hck
  refine kla_callFunE (show dp < recursionLimit by omega) (hobjs _ hf) rfl hco hgen rfl ⟨c', oc, vs, t, rfl, hobjs _ hc, hd1, hd2⟩ ?_
  rw [hbind]
  refine wpAny_pure (wpAny_newFunctionEnv hcell (fun y hy => nomatch hy) (fun h₁ hns hsb => ⟨((T.nolimit).keeps F.keep).fresh _ hsb, ?_⟩) hk)
  show codeAny _ _ (.expr body (envX qual scope s.heap.objs.size f (.ref c') cl)) _ _
  have hk₁ : ∀ b o, s.heap.get? b = some o → h₁.get? b = some o := fun b o e => hsb.extBut b o (Nat.ne_of_lt (Heap.lt_size e)) (Heap.get?_push_of_some _ e)
  refine kla_codeExpr (wpAny_mono (hb p loose mean mg mb dp un gd cn cs L a ccd cl₀ outer base s.heap s.heap.objs.size { s with heap := h₁, toks := s.toks + ([] : List (PySem.Str × Value)).length } E hck ⟨hns, hk₁, Nat.le_refl _⟩ G.below (X.keeps F.keep) (T.keeps F.keep) hobjs hd hu (fun e h' tk' z => hE e h' tk' z)) (fun v s' z => z.elim) fun _ _ y => y)
theorem name_free {M : Model} {A : Around} {E : Value → Shared → Prop} {s : Shared} {name x : PySem.Str} {scope : Scope} {L a c : Addr} {cd v : Value} {cl : List (PySem.Str × Addr)} {o : Obj} {pos : Pos} {Q : Value → Shared → Prop}
    (hl : cl.lookup x = some c) (hg : s.heap.get? c = some o) (hd : o.data = .cell (some v)) (h : Q v s)
    (hk : scope.kind = .function := by rfl) (hx : (envX name scope L a cd cl).kindOf x = some .free := by rfl) (hb : (x == ("__debug__" : PySem.Str)) = false := by decide) (hn : (x == ("__classdict__" : PySem.Str)) = false := by decide) :
    wpAny M A (eval (.Name x pos) (envX name scope L a cd cl)) Q E s := wpAny_Name (wpAny_loadName_free hk hx hl ⟨o, hg, hd⟩ h hn) hb
end
-- LM
section
local macro_rules | `(tactic| walk_at "call ref") => `(tactic| ((with_reducible show wpAny _ _ (call (Value.ref _) _) _ _ _); refine Halt.go ?_))
local macro_rules | `(tactic| walk_at "eval Name") => `(tactic| ((with_reducible show wpAny _ _ (eval (Expr.Name (Str.ofString "head") _) _) _ _ _); refine Halt.go ?_))
local macro_rules | `(tactic| walk_at "eval Name") => `(tactic| ((with_reducible show wpAny _ _ (eval (Expr.Name (Str.ofString "most") _) _) _ _ _); refine Halt.go ?_))
local macro_rules | `(tactic| walk_at "eval Name") => `(tactic| ((with_reducible show wpAny _ _ (eval (Expr.Name (Str.ofString "bent") _) _) _ _ _); refine Halt.go ?_))
noncomputable abbrev noArgs : Arguments := { posonlyargs := [], args := [], vararg := none, kwonlyargs := [], kw_defaults := [], kwarg := none, defaults := [] }

set_option maxHeartbeats 1000000 in
theorem lam_split (w : World) {f c' cM cH : Addr} {oc oM oH : Obj} {vs : Array Value} {t tm th : Tok} {qual : PySem.Str} {pm ctv : Value} {objs : Led} {data : List UInt8} {most : Nat} (hz : data.length ≤ 100000) (hm : most ≤ 1000) (hn : splitF most data = none)
    (hf : (f, kla_obj (Str.ofString "<lambda>") qual noArgs
      ((Expr.Name (Str.ofString "split_messages") { line := 132, col := 25, endLine := 132, endCol := 39 }).Call [Expr.Name (Str.ofString "head") { line := 132, col := 40, endLine := 132, endCol := 44 }, Expr.Name (Str.ofString "most") { line := 132, col := 46, endLine := 132, endCol := 50 }] [] { line := 132, col := 25, endLine := 132, endCol := 51 })
      { kind := ScopeKind.function, names := [(Str.ofString "head", NameKind.free), (Str.ofString "most", NameKind.free), (Str.ofString "split_messages", NameKind.globalImplicit)], isGenerator := false, isCoroutine := false }
      [(Str.ofString "most", cM), (Str.ofString "head", cH)] pm c' ctv) ∈ objs) (hc : (c', oc) ∈ objs) (hM : (cM, oM) ∈ objs) (hH : (cH, oH) ∈ objs) (hd1 : oc.data = .fields vs) (hd2 : vs[1]? = some (.str qual t))
    (dM : oM.data = .cell (some (.int most tm))) (dH : oH.data = .cell (some (.bytes data.toArray th))) : LamR w 8 f objs := by
  refine lam_enter hf hc hd1 hd2 rfl ?_
  clear hf hc hd1 hd2
  intro p loose mean mg mb dp un gd cn cs L a ccd cl₀ outer base g L' s₁ E hck F' B' X' T' hobjs hd hu hE
  have gM := F'.keep _ _ (hobjs _ hM)
  have gH := F'.keep _ _ (hobjs _ hH)
  dsimp only at gM gH
  clear hobjs hM hH
  k_steps
  unfold Halt
  refine name_free rfl gH dH ?_
  k_steps
  unfold Halt
  refine name_free rfl gM dM ?_
  k_steps
  unfold Halt
  refine' ct_use0 (split_ct w data most _ _ hz hm) ?B ?F ?X ?N ?T ?hk ?hd ?hu ?_ ?hbad
  case B => assumption
  case F => assumption
  case X => assumption
  case T => assumption
  case N => exact (News.nil : News g L' s₁.heap [])
  case hk => rfl
  case hd => first | omega | (dsimp only [ktrTop, Around.deeper, Around.in1] at *; omega)
  case hu => first | omega | (dsimp only [ktrTop, Around.deeper, Around.in1] at *; omega)
  case hbad =>
    intro _ e h1 tk1 Y
    exact flew_next B' rfl rfl F' Y fun h' z => hE e h' _ z
  intro r h1 tk1 foot1 F1 N1 ap1 hP
  obtain ⟨ms, rest, q, _⟩ := hP
  rw [hn] at q; cases q

set_option maxHeartbeats 1000000 in
theorem lam_client (w : World) {f c' cB : Addr} {oc oB : Obj} {vs : Array Value} {t tb : Tok} {qual : PySem.Str} {pm ctv : Value} {objs : Led} {body : List UInt8} (hz : body.length ≤ 100000) (hn : rchF body = none)
    (hf : (f, kla_obj (Str.ofString "<lambda>") qual noArgs
      ((Expr.Name (Str.ofString "read_client_hello") { line := 148, col := 29, endLine := 148, endCol := 46 }).Call [Expr.Name (Str.ofString "bent") { line := 148, col := 47, endLine := 148, endCol := 51 }] [] { line := 148, col := 29, endLine := 148, endCol := 52 })
      { kind := ScopeKind.function, names := [(Str.ofString "bent", NameKind.free), (Str.ofString "read_client_hello", NameKind.globalImplicit)], isGenerator := false, isCoroutine := false }
      [(Str.ofString "bent", cB)] pm c' ctv) ∈ objs) (hc : (c', oc) ∈ objs) (hB : (cB, oB) ∈ objs) (hd1 : oc.data = .fields vs) (hd2 : vs[1]? = some (.str qual t))
    (dB : oB.data = .cell (some (.bytes body.toArray tb))) : LamR w 10 f objs := by
  refine lam_enter hf hc hd1 hd2 rfl ?_
  clear hf hc hd1 hd2
  intro p loose mean mg mb dp un gd cn cs L a ccd cl₀ outer base g L' s₁ E hck F' B' X' T' hobjs hd hu hE
  have gB := F'.keep _ _ (hobjs _ hB)
  dsimp only at gB
  clear hobjs hB
  k_steps
  unfold Halt
  refine name_free rfl gB dB ?_
  k_steps
  unfold Halt
  refine' ct_use0 (read_client_ct w body _ hz) ?B ?F ?X ?N ?T ?hk ?hd ?hu ?_ ?hbad
  case B => assumption
  case F => assumption
  case X => assumption
  case T => assumption
  case N => exact (News.nil : News g L' s₁.heap [])
  case hk => rfl
  case hd => first | omega | (dsimp only [ktrTop, Around.deeper, Around.in1] at *; omega)
  case hu => first | omega | (dsimp only [ktrTop, Around.deeper, Around.in1] at *; omega)
  case hbad =>
    intro _ e h1 tk1 Y
    exact flew_next B' rfl rfl F' Y fun h' z => hE e h' _ z
  intro r h1 tk1 foot1 F1 N1 ap1 hP
  obtain ⟨x, l, p, q, _⟩ := hP
  rw [hn] at q; cases q

set_option maxHeartbeats 1000000 in
theorem lam_server (w : World) {f c' cB : Addr} {oc oB : Obj} {vs : Array Value} {t tb : Tok} {qual : PySem.Str} {pm ctv : Value} {objs : Led} {body : List UInt8} (hz : body.length ≤ 100000) (hn : rshF body = none)
    (hf : (f, kla_obj (Str.ofString "<lambda>") qual noArgs
      ((Expr.Name (Str.ofString "read_server_hello") { line := 151, col := 29, endLine := 151, endCol := 46 }).Call [Expr.Name (Str.ofString "bent") { line := 151, col := 47, endLine := 151, endCol := 51 }] [] { line := 151, col := 29, endLine := 151, endCol := 52 })
      { kind := ScopeKind.function, names := [(Str.ofString "bent", NameKind.free), (Str.ofString "read_server_hello", NameKind.globalImplicit)], isGenerator := false, isCoroutine := false }
      [(Str.ofString "bent", cB)] pm c' ctv) ∈ objs) (hc : (c', oc) ∈ objs) (hB : (cB, oB) ∈ objs) (hd1 : oc.data = .fields vs) (hd2 : vs[1]? = some (.str qual t))
    (dB : oB.data = .cell (some (.bytes body.toArray tb))) : LamR w 10 f objs := by
  refine lam_enter hf hc hd1 hd2 rfl ?_
  clear hf hc hd1 hd2
  intro p loose mean mg mb dp un gd cn cs L a ccd cl₀ outer base g L' s₁ E hck F' B' X' T' hobjs hd hu hE
  have gB := F'.keep _ _ (hobjs _ hB)
  dsimp only at gB
  clear hobjs hB
  k_steps
  unfold Halt
  refine name_free rfl gB dB ?_
  k_steps
  unfold Halt
  refine' ct_use0 (read_server_ct w body _ hz) ?B ?F ?X ?N ?T ?hk ?hd ?hu ?_ ?hbad
  case B => assumption
  case F => assumption
  case X => assumption
  case T => assumption
  case N => exact (News.nil : News g L' s₁.heap [])
  case hk => rfl
  case hd => first | omega | (dsimp only [ktrTop, Around.deeper, Around.in1] at *; omega)
  case hu => first | omega | (dsimp only [ktrTop, Around.deeper, Around.in1] at *; omega)
  case hbad =>
    intro _ e h1 tk1 Y
    exact flew_next B' rfl rfl F' Y fun h' z => hE e h' _ z
  intro r h1 tk1 foot1 F1 N1 ap1 hP
  obtain ⟨x, t', q, _⟩ := hP
  rw [hn] at q; cases q
end
-- LG
section
local macro_rules | `(tactic| walk_at "call ref") => `(tactic| ((with_reducible show wpAny _ _ (call (Value.ref _) _) _ _ _); refine Halt.go ?_))
local macro_rules | `(tactic| walk_at "compareOp NotEq ref ref") => `(tactic| (refine Halt.go ?_))
local macro_rules | `(tactic| walk_at "compareOp Eq ref ref") => `(tactic| (refine Halt.go ?_))
theorem sub_mid {α : Type} {a b c x y z : α} {f k : List α} : ∀ p ∈ a :: b :: c :: f, p ∈ x :: y :: z :: a :: b :: c :: (f ++ k) := by
  intro p hp
  grind
theorem sub_tail {α : Type} {a b c d e : α} {f k : List α} : ∀ p ∈ e :: f, p ∈ k ++ (a :: b :: c :: d :: e :: f) := by
  intro p hp
  grind
theorem sub_end {α : Type} {a b c e : α} {f k : List α} : ∀ p ∈ f ++ [e], p ∈ a :: b :: c :: (k ++ (e :: f)) := by
  intro p hp
  grind
set_option maxHeartbeats 8000000 in
theorem long_ct (w : World) (b : Addr) (foot : Led) (hb : IsBox b foot) (h176 : ∀ p ∈ foot, p.1 ≠ 176) :
    CtT w 12 181 (foot ++ [(176, tabObj #[])]) [] [.ref b] (fun r foot' => r = .bool true ∧ ∃ foot2 ps, foot' = foot2 ++ [(176, tabObj ps)] ∧ IsBox b foot2) := by
  refine' ct_defT (binds := [("box", .ref b)]) ?ho ?hcd ?hbind ?hkind ?hnd ?_ ?hco ?hgen ?hk
  case ho => k_dflt k_is
  case hcd => k_dflt k_is
  case hbind => with_unfolding_all rfl
  case hkind => rfl
  case hnd => decide
  case hco => rfl
  case hgen => rfl
  case hk => rfl
  intro p loose mean mg mb dp un gd cn cs L a ccd cl outer base g L' s₁ E cells hck Z B' XB TB hneed hd hu
  have X' := XB.keeps B'.stays
  have T' := TB.keeps B'.stays
  have hcode := codeHd180 X'
  obtain ⟨F', N', are, low⟩ := Z
  obtain ⟨o1, o2, rfl, c1, c2⟩ := CellsAre.two (n := "most") (n' := "head") are
  clear are
  have hlow : ∀ p ∈ foot, p.1 < L' := fun p hp => low p (List.mem_append_left _ hp)
  have h176L : @LT.lt Nat _ 176 L' := low (176, tabObj #[]) (by simp)
  have apA : ApartA foot [L' + 1 + 1, L' + 1, 176] := fun p hp a ha => by
    simp only [List.mem_cons, List.not_mem_nil, or_false] at ha
    rcases ha with rfl | rfl | rfl
    · exact Nat.ne_of_lt (Nat.lt_succ_of_lt (Nat.lt_succ_of_lt (hlow p hp)))
    · exact Nat.ne_of_lt (Nat.lt_succ_of_lt (hlow p hp))
    · exact h176 p hp
  have c1' : o1.data = .cell none := c1
  have c2' : o2.data = .cell none := c2
  clear c1 c2
  have f1 := apA.at (a := L' + 1) (by simp)
  have f2 := apA.at (a := L' + 1 + 1) (by simp)
  have f3 := apA.at (a := 176) (by simp)
  have N1 : News g L' s₁.heap ((L' + 1 + 1, o1) :: (L' + 1, o2) :: (176, tabObj #[]) :: foot) := fun p hp => N' p (by grind)
  clear N' low
  rw [show envOfC (Str.ofString "_law_long_right") _ L' 181 (Value.ref 180) = envX _ _ _ _ _ [(Str.ofString "most", L' + 1 + 1), (Str.ofString "head", L' + 1)] from rfl]
  k_steps
  unfold Halt
  refine' ct_useF (rest := [(L' + 1 + 1, o1), (L' + 1, o2), (176, tabObj #[])]) (take_ct w b foot hb 400 _ (by decide)) ?sub ?ap ?B ?F ?X ?N ?T ?hk ?hd ?hu ?_
  case sub => exact sub_swap
  case ap => exact apA.to rfl
  walk_at "mine use"
  intro r h1 tk1 foot1 F1 N2 ap1 hP
  obtain ⟨hb1, most, t1, hmost, rfl⟩ := hP
  replace N2 := news_swap N2
  simp only [List.cons_append, List.nil_append] at N2
  clear N1 f1 f2 f3 hb apA F'
  have apA := ApartA.of ap1 rfl
  have f1 := apA.at (a := L' + 1) (by simp)
  have f2 := apA.at (a := L' + 1 + 1) (by simp)
  have f3 := apA.at (a := 176) (by simp)
  dsimp only
  k_steps
  unfold Halt
  rename_i h2 oM F2 N3 dM
  refine' ct_useF (rest := [(L' + 1 + 1, oM), (L' + 1, o2), (176, tabObj #[])]) (take_ct w b foot1 hb1 70000 _ (by decide)) ?sub ?ap ?B ?F ?X ?N ?T ?hk ?hd ?hu ?_
  case sub => exact sub_swap
  case ap => exact apA.to rfl
  walk_at "mine use"
  intro r h3 tk3 foot2 F3 N4 ap2 hP
  obtain ⟨hb2, k2, t2, hk2, rfl⟩ := hP
  replace N4 := news_swap N4
  simp only [List.cons_append, List.nil_append] at N4
  clear N3 f1 f2 f3 hb1 apA F2 ap1 foot1
  have apA := ApartA.of ap2 rfl
  have f1 := apA.at (a := L' + 1) (by simp)
  have f2 := apA.at (a := L' + 1 + 1) (by simp)
  have f3 := apA.at (a := 176) (by simp)
  dsimp only
  k_steps
  unfold Halt
  with_reducible rename Fr _ _ _ _ => F4
  with_reducible rename News _ _ _ _ => N5
  refine' ct_use0 (written_ct w 1 _ [97, 98] _ (by decide) (by decide)) ?B ?F ?X ?N ?T ?hk ?hd ?hu ?_ (fun z => nomatch z)
  walk_at "mine use"
  intro r h4 tk4 foot3 F5 N6 ap3 hP
  obtain ⟨rfl, t3, rfl⟩ := hP
  simp only [List.nil_append] at N6
  clear N5 F4 ap3
  obtain ⟨size, hsize⟩ : ∃ size : Nat, size = most + 1 + k2 := ⟨_, rfl⟩
  have hin := in4 (k := 9) (n := size) (by decide) (by omega)
  rw [show ((size : Nat) : Int) = (most : Int) + 1 + (k2 : Int) by omega, show ((9 : Nat) : Int) = 9 from rfl] at hin
  have hof := ofInts4 9 size
  rw [show ((size : Nat) : Int) = (most : Int) + 1 + (k2 : Int) by omega, show ((9 : Nat) : Int) = 9 from rfl] at hof
  dsimp only
  k_steps
  unfold Halt
  have hh : writtenOf 1 [97, 98] ++ ofInts [9, ((most : Int) + 1 + (k2 : Int)).fdiv 65536, (((most : Int) + 1 + (k2 : Int)).fdiv 256).fmod 256, ((most : Int) + 1 + (k2 : Int)).fmod 256] = longHead size := by rw [hof]; rfl
  rw [hh]
  with_reducible rename Fr _ _ _ _ => F6
  with_reducible rename News _ _ _ _ => N7
  with_reducible rename _ = Data.cell (some (Value.bytes _ _)) => dH
  rw [hh] at dH
  rename_i oH F6b N6b _ _ _
  clear hin hof hh F6b N6b
  have hcut : cutOf (longHead size) none (some 9) = (longHead size).take 9 := cut_b _ (by decide)
  have h10 := longHead_length size
  rw [hcut, show (2 : Int) + (most : Int) = ((2 + most : Nat) : Int) by omega]
  refine' ct_use0 (split_ct w ((longHead size).take 9) (2 + most) _ _ (by simp; omega) (by omega)) ?B ?F ?X ?N ?T ?hk ?hd ?hu ?_ (fun z => by rw [long_cut] at z; cases z)
  walk_at "mine use"
  intro r h5 tk5 foot5 F7 N8 ap5 hP
  obtain ⟨ms, rest, hms, hin5⟩ := hP
  rw [long_cut] at hms
  cases hms
  obtain ⟨ra, rfl⟩ := datIn_tup hin5
  have N9 : News g L' h5 ((L' + 1 + 1, oM) :: (L' + 1, oH) :: (176, tabObj #[]) :: (foot2 ++ foot5)) := fun p hp => N8 p (by grind)
  have e1 : ∀ p ∈ foot5, p.1 ≠ L' + 1 := fun p hp => ap5 p hp (L' + 1, oH) (by simp)
  have e2 : ∀ p ∈ foot5, p.1 ≠ L' + 1 + 1 := fun p hp => ap5 p hp (L' + 1 + 1, oM) (by simp)
  have e3 : ∀ p ∈ foot5, p.1 ≠ 176 := fun p hp => ap5 p hp (176, tabObj #[]) (by simp)
  clear N8 N7 F6
  dsimp only
  k_steps
  unfold Halt
  with_reducible rename Fr _ _ _ _ => F8
  with_reducible rename News _ _ _ _ => N10
  have c6 : cutOf (longHead size) none (some 6) = (longHead size).take 6 := cut_b _ (by decide)
  have c69 : cutOf (longHead size) (some 6) (some 9) = ((longHead size).drop 6).take 3 := cut_ab _ (by decide) (by decide)
  rw [c6, c69] at N10
  refine ne_tup N10 (hin5.mono fun p hp => List.mem_cons_of_mem _ (List.mem_cons_of_mem _ (List.mem_cons_of_mem _ (List.mem_cons_of_mem _ (List.mem_cons_of_mem _ (List.mem_cons_of_mem _ (List.mem_append_right _ hp))))))) (DatIn.tuple (vs := [_, _]) (List.mem_cons_self ..) (.cons (.list (vs := [_]) (List.mem_cons_of_mem _ (List.mem_cons_self ..)) (.cons (.tuple (vs := [_, _, _]) (List.mem_cons_of_mem _ (List.mem_cons_of_mem _ (List.mem_cons_self ..))) (.cons (.int _ _) (.cons (.bytes _ _) (.cons (.bytes _ _) .nil)))) .nil)) (.cons (.bytes _ _) .nil))) ?deep ?hu ?_
  case deep =>
    intro d hd
    simp only [List.mem_cons, List.not_mem_nil, or_false] at hd
    rcases hd with rfl | rfl <;> simp [datDeep, msgDat]
  case hu => dsimp only [ktrTop, Around.deeper, Around.in1] at *; omega
  have N11 : News g L' _ ((L' + 1 + 1, oM) :: (L' + 1, oH) :: (176, tabObj #[]) :: foot2) := fun p hp => N10 p (sub_mid p hp)
  clear N10
  dsimp only
  k_steps
  unfold Halt
  rename_i fL cL ocL vsL tL ctL hL tkL FL NL d1 d2 l1 l2
  refine' (code_ct w 8 fL _ ?H ?fn) p loose mean mg mb _ _ _ _ _ _ _ _ _ _ base g L' _ _ _ _ _ B' FL XB NL (fun _ z => nomatch z) (fun q hq => hq) TB rfl ?hd ?hu ?_
  case hd => dsimp only [ktrTop, Around.deeper, Around.in1] at *; omega
  case hu => dsimp only [ktrTop, Around.deeper, Around.in1] at *; omega
  case fn => exact ⟨_, _, _, _, List.mem_cons_self ..⟩
  case H => exact lam_split w (by omega) (by omega) (long_none (most := most) (size := size) (by omega) (by omega)) (List.mem_cons_self ..) (List.mem_cons_of_mem _ (List.mem_cons_self ..)) (List.mem_cons_of_mem _ (List.mem_cons_of_mem _ (List.mem_cons_self ..))) (List.mem_cons_of_mem _ (List.mem_cons_of_mem _ (List.mem_cons_of_mem _ (List.mem_cons_self ..)))) d1 d2 dM dH
  intro r h6 tk6 foot6 g2 Tu F9 N12 ap6 hP
  obtain ⟨rfl, t6, rfl⟩ := hP
  have B2 := below_turn B' Tu
  have X2 := XB.keeps B2.stays
  have TT2 := TB.keeps B2.stays
  obtain ⟨tab, N13⟩ : ∃ tab, News g2 L' h6 ((176, tabObj tab) :: foot2) := ⟨_, fun p hp => N12 p (sub_tail p hp)⟩
  have a176 : ∀ p ∈ foot2, p.1 ≠ 176 := f3
  clear N12 FL NL d1 d2 l1 l2 ap6 N11 B' X' T' hcode dM dH hin5 e1 e2 e3 ap5
  dsimp only
  k_steps
  unfold Halt
  refine' ct_use0 (written_ct w 5 _ [] _ (by decide) (by decide)) ?B ?F ?X ?N ?T ?hk ?hd ?hu ?_ (fun z => nomatch z)
  walk_at "mine use"
  intro r h7 tk7 foot7 F10 N14 ap7 hP
  obtain ⟨rfl, t7, rfl⟩ := hP
  simp only [List.nil_append] at N14
  clear N13 F9
  dsimp only
  k_steps
  unfold Halt
  refine' ct_use0 (split_ct w (writtenOf 5 []) 0 _ _ (by decide) (by decide)) ?B ?F ?X ?N ?T ?hk ?hd ?hu ?_ (fun z => by rw [splitF_whole (by decide) (by decide) (by decide)] at z; cases z)
  walk_at "mine use"
  intro r h8 tk8 foot8 F11 N15 ap8 hP
  obtain ⟨ms, rest, hms, hin8⟩ := hP
  rw [splitF_whole (by decide) (by decide) (by decide)] at hms
  cases hms
  obtain ⟨ra2, rfl⟩ := datIn_tup hin8
  clear N14 F10
  dsimp only
  k_steps
  unfold Halt
  refine' ct_use0 (written_ct w 5 _ [] _ (by decide) (by decide)) ?B ?F ?X ?N ?T ?hk ?hd ?hu ?_ (fun z => nomatch z)
  walk_at "mine use"
  intro r h9 tk9 foot9 F12 N16 ap9 hP
  obtain ⟨rfl, t9, rfl⟩ := hP
  simp only [List.nil_append] at N16
  dsimp only
  k_steps
  unfold Halt
  with_reducible rename News _ _ _ _ => N17
  refine eq_tup N17 (hin8.mono fun p hp => List.mem_cons_of_mem _ (List.mem_cons_of_mem _ (List.mem_cons_of_mem _ (List.mem_append_left _ hp)))) (DatIn.tuple (vs := [_, _]) (List.mem_cons_self ..) (.cons (.list (vs := [_]) (List.mem_cons_of_mem _ (List.mem_cons_self ..)) (.cons (.tuple (vs := [_, _, _]) (List.mem_cons_of_mem _ (List.mem_cons_of_mem _ (List.mem_cons_self ..))) (.cons (.int _ _) (.cons (.bytes _ _) (.cons (.bytes _ _) .nil)))) .nil)) (.cons (.bytes _ _) .nil))) ?deep ?hu ?_
  case deep =>
    intro d hd
    simp only [List.mem_cons, List.not_mem_nil, or_false] at hd
    rcases hd with rfl | rfl <;> simp [datDeep, msgDat]
  case hu => dsimp only [ktrTop, Around.deeper, Around.in1] at *; omega
  with_reducible rename Fr _ _ _ _ => F13
  refine ⟨g2, _, _, _, foot2 ++ [(176, tabObj tab)], Tu, rfl, F13, fun p hp => N17 p ?_, rfl, foot2, tab, rfl, hb2⟩
  exact sub_end p hp
end
-- SV
section
local macro_rules | `(tactic| walk_at "call ref") => `(tactic| ((with_reducible show wpAny _ _ (call (Value.ref _) _) _ _ _); refine Halt.go ?_))
set_option maxHeartbeats 2000000 in
theorem server_ct (w : World) (d : List UInt8) (t : Tok) (hn : d.length ≤ 1000) : CtC w 4 122 [] [.bytes d.toArray t] (fun r foot' => foot' = [] ∧ ∃ t', r = .bytes (writtenOf 2 (fieldOf d)).toArray t') := by
  refine' ctc_def (binds := [("random", .bytes d.toArray t)]) ?ho ?hcd ?hbind ?hloc ?hcell ?_ ?hco ?hgen ?hk
  walk_at "mine enter"
  intro p loose mean mg mb dp un gd cn cs L a ccd cl outer base g L' s₁ E hck F' N' B' X' T' hd hu
  refine wpC_execs_cons (wpC_Return (wpC_Call ?_))
  walk1
  refine wpC_callWith (K := htop.heap_1 w.params) (by k_dflt k_is) (wpC_args_cons (wpC_of ?_))
  walk1
  refine wpC_args_cons (wpC_Call ?_)
  walk1
  refine wpC_callWith (K := htop.heap_1 w.params) (by k_dflt k_is) (wpC_args_cons (wpC_of ?_))
  walk1
  refine wpC_args_nil ⟨by k_in, ?_⟩
  refine' ctc_use0 (put_field_ct w d _ (by omega)) ?B ?F ?X ?N ?T ?hk ?hd ?hu ?_
  walk_at "mine use"
  intro r h' tk' foot' F' N' ap' hP
  obtain ⟨rfl, t', rfl⟩ := hP
  refine wpC_args_nil ⟨by k_in, ?_⟩
  refine' ctc_use0 (put_message_ct w 2 _ (fieldOf d) _ (by decide) (by rw [fieldOf_length]; omega)) ?B ?F ?X ?N ?T ?hk ?hd ?hu ?_
  walk_at "mine use"
  intro r h2 tk2 foot2 F2 N2 ap2 hP
  obtain ⟨rfl, t2, rfl⟩ := hP
  dsimp only
  walk_at "mine end"
  exact ⟨rfl, _, rfl⟩

set_option maxHeartbeats 2000000 in
theorem ext_ct (w : World) (d e : List UInt8) (t u : Tok) (hn : d.length ≤ 1000) (hm : e.length ≤ 1000) : CtC w 4 136 [] [.bytes d.toArray t, .bytes e.toArray u] (fun r foot' => foot' = [] ∧ ∃ t', r = .bytes (writtenOf 8 (fieldOf d ++ fieldOf e)).toArray t') := by
  refine' ctc_def (binds := [("protocol", .bytes d.toArray t), ("params", .bytes e.toArray u)]) ?ho ?hcd ?hbind ?hloc ?hcell ?_ ?hco ?hgen ?hk
  walk_at "mine enter"
  intro p loose mean mg mb dp un gd cn cs L a ccd cl outer base g L' s₁ E hck F' N' B' X' T' hd hu
  refine wpC_execs_cons (wpC_Return (wpC_Call ?_))
  walk1
  refine wpC_callWith (K := htop.heap_1 w.params) (by k_dflt k_is) (wpC_args_cons (wpC_of ?_))
  walk1
  refine wpC_args_cons (wpC_BinOp (wpC_Call ?_))
  walk1
  refine wpC_callWith (K := htop.heap_1 w.params) (by k_dflt k_is) (wpC_args_cons (wpC_of ?_))
  walk1
  refine wpC_args_nil ⟨by k_in, ?_⟩
  refine' ctc_use0 (put_field_ct w d _ (by omega)) ?B ?F ?X ?N ?T ?hk ?hd ?hu ?_
  walk_at "mine use"
  intro r h' tk' foot' F' N' ap' hP
  obtain ⟨rfl, t', rfl⟩ := hP
  refine wpC_Call ?_
  walk1
  refine wpC_callWith (K := htop.heap_1 w.params) (by k_dflt k_is) (wpC_args_cons (wpC_of ?_))
  walk1
  refine wpC_args_nil ⟨by k_in, ?_⟩
  refine' ctc_use0 (put_field_ct w e _ (by omega)) ?B ?F ?X ?N ?T ?hk ?hd ?hu ?_
  walk_at "mine use"
  intro r h2 tk2 foot2 F2 N2 ap2 hP
  obtain ⟨rfl, t2, rfl⟩ := hP
  refine wpC_of (add_b (by rw [fieldOf_length, fieldOf_length]; omega) fun t3 k3 => ?_)
  refine wpC_args_nil ⟨by k_in, ?_⟩
  refine' ctc_use0 (put_message_ct w 8 _ (fieldOf d ++ fieldOf e) _ (by decide) (by rw [List.length_append, fieldOf_length, fieldOf_length]; omega)) ?B ?F ?X ?N ?T ?hk ?hd ?hu ?_
  walk_at "mine use"
  intro r h4 tk4 foot4 F4 N4 ap4 hP
  obtain ⟨rfl, t4, rfl⟩ := hP
  dsimp only
  walk_at "mine end"
  exact ⟨rfl, _, rfl⟩
end
-- CL
section
local macro_rules | `(tactic| walk_at "mine pad 0") => `(tactic| skip)
local macro_rules | `(tactic| walk_at "call ref") => `(tactic| ((with_reducible show wpAny _ _ (call (Value.ref _) _) _ _ _); refine Halt.go ?_))
theorem fields_vals : ∀ (ls : List (List UInt8 × Tok)) (ys : List Value), ys.length = ls.length → (∀ i y, ys[i]? = some y → ∃ t' : Tok, y = Value.bytes (fieldOf (ls.getD i ([], 0)).1).toArray t') →
    ∃ ts : List Tok, ts.length = ls.length ∧ ys = bytesVals (List.zipWith (fun p t => (fieldOf p.1, t)) ls ts)
  | [], [], _, _ => ⟨[], rfl, rfl⟩
  | p :: ls, y :: ys, hl, h => by
    obtain ⟨ts, e, q⟩ := fields_vals ls ys (by simpa using hl) fun i z hz => by simpa using h (i + 1) z (by simpa using hz)
    obtain ⟨t', ht⟩ := h 0 y rfl
    refine ⟨t' :: ts, by simp [e], ?_⟩
    rw [q, ht]
    simp [bytesVals]
theorem zip_fields : ∀ (ls : List (List UInt8 × Tok)) (ts : List Tok), ts.length = ls.length → (List.zipWith (fun p t => ((fieldOf p.1, t) : List UInt8 × Tok)) ls ts).map (·.1) = ls.map fun p => fieldOf p.1
  | [], [], _ => rfl
  | p :: ls, t :: ts, h => by
    simp only [List.zipWith_cons_cons, List.map_cons]
    rw [zip_fields ls ts (by simpa using h)]
theorem flat_le : ∀ (ls : List (List UInt8 × Tok)), (∀ p ∈ ls, p.1.length ≤ 1000) → (ls.map fun p => fieldOf p.1).flatten.length ≤ 1002 * ls.length
  | [], _ => by simp
  | p :: ls, h => by
    have := flat_le ls fun q hq => h q (List.mem_cons_of_mem _ hq)
    have := h p (List.mem_cons_self ..)
    rw [List.map_cons, List.flatten_cons, List.length_append, fieldOf_length, List.length_cons]
    omega
set_option maxHeartbeats 2000000 in
theorem client_ct (w : World) (d e : List UInt8) (t u : Tok) (ax : Addr) (ls : List (List UInt8 × Tok)) (n : Nat) (hn : d.length ≤ 1000) (hm : e.length ≤ 1000) (hl : ls.length ≤ 8) (hls : ∀ p ∈ ls, p.1.length ≤ 1000) :
    CtC w 6 108 [(ax, PySem.W.listOf (bytesVals ls).toArray n)] [.bytes d.toArray t, .ref ax, .bytes e.toArray u]
      (fun r foot' => foot' = [(ax, PySem.W.listOf (bytesVals ls).toArray n)] ∧ ∃ t', r = .bytes (writtenOf 1 (fieldOf d ++ fieldOf ((ls.map fun p => fieldOf p.1).flatten) ++ fieldOf e)).toArray t') := by
  refine' ctc_def (binds := [("random", .bytes d.toArray t), ("protocols", .ref ax), ("params", .bytes e.toArray u)]) ?ho ?hcd ?hbind ?hloc ?hcell ?_ ?hco ?hgen ?hk
  walk_at "mine enter"
  intro p loose mean mg mb dp un gd cn cs L a ccd cl outer base g L' s₁ E hck F' N' B' X' T' hd hu
  refine wpC_execs_cons (wpC_Assign (wpC_methodCall ?_))
  walk1
  refine method_join ?_
  refine wpC_callWith_builtin (wpC_args_cons ?_)
  refine wpC_ListComp (h₀ := g) (L := L') (ax := ax) (its := (bytesVals ls).toArray) (k := n) (news := [(ax, PySem.W.listOf (bytesVals ls).toArray n)]) (fun i y => ∃ t', y = .bytes (fieldOf (ls.getD i ([], 0)).1).toArray t') F' rfl (by rfl) (by decide) (by rfl) (by decide) (by rfl) (by simp [bytesVals]; omega) ?hi ?step ?fin
  case hi =>
    walk1
    exact ⟨rfl, ⟨_, _, rfl⟩, F', N', List.mem_cons_self ..⟩
  case step =>
    intro i v J oJ oC C D ys m₂ h tk hi hN hx F1 N1 off ne
    obtain ⟨q, hq, rfl⟩ : ∃ q, ls[i]? = some q ∧ v = .bytes q.1.toArray q.2 := by
      simp [bytesVals] at hi
      obtain ⟨a, b, h1, rfl⟩ := hi
      exact ⟨(a, b), h1, rfl⟩
    have hmem : q ∈ ls := List.mem_of_getElem? hq
    have hq' : ls.getD i ([], 0) = q := by simp [List.getD_eq_getElem?_getD, hq]
    rw [hq']
    refine wpC_Call ?_
    walk1
    refine wpC_callWith (K := htop.heap_1 w.params) (by k_dflt k_is) (wpC_args_cons (wpC_of ?_))
    walk1
    refine wpC_args_nil ⟨by k_in, ?_⟩
    refine' ctc_use0 (put_field_ct w q.1 _ (by have := hls q hmem; omega)) ?B ?F ?X ?N ?T ?hk ?hd ?hu ?_
    walk_at "mine use"
    intro r h' tk' foot' F2 N2 ap2 hP
    obtain ⟨rfl, t', rfl⟩ := hP
    exact ⟨⟨_, rfl⟩, h', tk', rfl, F2, by simpa using N2⟩
  case fin =>
    intro D ys h tk hlen hG F1 N1
    obtain ⟨ts, hts, rfl⟩ : ∃ ts : List Tok, ts.length = ls.length ∧ ys = bytesVals (List.zipWith (fun p t => (fieldOf p.1, t)) ls ts) := fields_vals ls ys (by simpa [bytesVals] using hlen) hG
    have hz := zip_fields ls ts hts
    have hfl := flat_le ls hls
    refine wpC_args_nil ?_
    refine wpC_of (join_b (N1 (D, _) (List.mem_cons_self ..)).1 (by rw [hz]; omega) (by simp; omega) fun t3 tk3 => ?_)
    rw [hz]
    generalize hsp : (ls.map fun p => fieldOf p.1).flatten = sp at hfl
    refine stN F1 N1 (fun h5 F5 N5 => ?_) rfl rfl
    dsimp only
    refine wpC_execs_cons (wpC_Return (wpC_Call ?_))
    walk1
    refine wpC_callWith (K := htop.heap_1 w.params) (by k_dflt k_is) (wpC_args_cons (wpC_of ?_))
    walk1
    refine wpC_args_cons (wpC_BinOp (wpC_BinOp (wpC_Call ?_)))
    walk1
    refine wpC_callWith (K := htop.heap_1 w.params) (by k_dflt k_is) (wpC_args_cons (wpC_of ?_))
    walk1
    refine wpC_args_nil ⟨by k_in, ?_⟩
    refine' ctc_use0 (put_field_ct w d _ (by omega)) ?B ?F ?X ?N ?T ?hk ?hd ?hu ?_
    walk_at "mine use"
    intro r h6 tk6 foot6 F6 N6 ap6 hP
    obtain ⟨rfl, t6, rfl⟩ := hP
    refine wpC_Call ?_
    walk1
    refine wpC_callWith (K := htop.heap_1 w.params) (by k_dflt k_is) (wpC_args_cons (wpC_of ?_))
    walk1
    refine wpC_args_nil ⟨by k_in, ?_⟩
    refine' ctc_use0 (put_field_ct w sp _ (by omega)) ?B ?F ?X ?N ?T ?hk ?hd ?hu ?_
    walk_at "mine use"
    intro r h7 tk7 foot7 F7 N7 ap7 hP
    obtain ⟨rfl, t7, rfl⟩ := hP
    refine wpC_of (add_b (by rw [fieldOf_length, fieldOf_length]; omega) fun t8 k8 => ?_)
    refine wpC_Call ?_
    walk1
    refine wpC_callWith (K := htop.heap_1 w.params) (by k_dflt k_is) (wpC_args_cons (wpC_of ?_))
    walk1
    refine wpC_args_nil ⟨by k_in, ?_⟩
    refine' ctc_use0 (put_field_ct w e _ (by omega)) ?B ?F ?X ?N ?T ?hk ?hd ?hu ?_
    walk_at "mine use"
    intro r h9 tk9 foot9 F9 N9 ap9 hP
    obtain ⟨rfl, t9, rfl⟩ := hP
    refine wpC_of (add_b (by rw [List.length_append, fieldOf_length, fieldOf_length, fieldOf_length]; omega) fun t10 k10 => ?_)
    refine wpC_args_nil ⟨by k_in, ?_⟩
    refine' ctc_use0 (put_message_ct w 1 _ (fieldOf d ++ fieldOf sp ++ fieldOf e) _ (by decide) (by rw [List.length_append, List.length_append, fieldOf_length, fieldOf_length, fieldOf_length]; omega)) ?B ?F ?X ?N ?T ?hk ?hd ?hu ?_
    walk_at "mine use"
    intro r h11 tk11 foot11 F11 N11 ap11 hP
    obtain ⟨rfl, t11, rfl⟩ := hP
    dsimp only
    refine ⟨_, _, _, [(ax, _)], rfl, F11, fun q hq => N11 q ?_, rfl, _, rfl⟩
    rw [List.mem_singleton.mp hq]
    simp
end
-- BT
section
/-! bodies bent are refused -/
theorem manyF_none (m : Option Nat) : manyF m none = none := rfl
theorem rch_of_none {d : List UInt8} (h : readF d = none) : rchF d = none := by unfold rchF; rw [h]; rfl
theorem rsh_of_none {d : List UInt8} (h : readF d = none) : rshF d = none := by unfold rshF; rw [h]; rfl
theorem readF_single (x : UInt8) : readF [x] = none := readF_one (by simp) (by simp)
theorem readF_cut {p : List UInt8} (hp : p.length < 65536) : readF ((fieldOf p).take (p.length + 1)) = none := by
  have hl : ((fieldOf p).take (p.length + 1)).length = p.length + 1 := by rw [List.length_take, fieldOf_length]; omega
  by_cases h0 : p.length = 0
  · exact readF_one (by omega) (by omega)
  · have ht : ((fieldOf p).take (p.length + 1)).take 2 = be2 p.length := by
      rw [List.take_take, Nat.min_eq_left (by omega)]
      simp [fieldOf, be2]
    exact readF_short (by omega) (by omega) (by rw [ht, valOf_be2 hp]; omega)

section
variable {r s p : List UInt8} (hr : r.length = 8) (hs : s.length < 65536) (hp : p.length < 65536)
include hr hs hp
theorem bent_more (x : UInt8) : rchF (helloOf r s p ++ [x]) = none := by
  refine rch_of_none ?_
  rw [readF_hello (by omega) hs hp, readF_single]; rfl
theorem bent_less : rchF ((helloOf r s p).take ((helloOf r s p).length - 1)) = none := by
  refine rch_of_none ?_
  have hl : (helloOf r s p).length = r.length + 2 + (s.length + 2) + (p.length + 2) := by simp only [helloOf, List.length_append, fieldOf_length]
  have e : (helloOf r s p).take ((helloOf r s p).length - 1) = fieldOf r ++ (fieldOf s ++ (fieldOf p).take (p.length + 1)) := by
    rw [hl, helloOf, List.append_assoc, List.take_append, List.take_of_length_le (by rw [fieldOf_length]; omega), List.take_append, List.take_of_length_le (l := fieldOf s) (by rw [fieldOf_length, fieldOf_length]; omega)]
    rw [fieldOf_length, fieldOf_length]
    congr 3
    omega
  rw [e, readF_field (by omega), readF_field hs, readF_cut hp]; rfl
theorem bent_field : rchF (helloOf r s p ++ fieldOf []) = none := by
  have h0 : readF (fieldOf []) = some [[]] := by
    have := readF_field (d := []) (r := []) (by decide)
    rw [List.append_nil, readF_empty] at this; exact this
  unfold rchF
  rw [readF_hello (by omega) hs hp, h0]
  rfl
theorem bent_random : rchF (fieldOf (r.drop 1) ++ (helloOf r s p).drop 10) = none := by
  have e : (helloOf r s p).drop 10 = fieldOf s ++ fieldOf p := by
    rw [helloOf, List.append_assoc, List.drop_append, List.drop_of_length_le (by rw [fieldOf_length]; omega), fieldOf_length]
    simp [hr]
  have h0 : readF (fieldOf p) = some [p] := by
    have := readF_field (d := p) (r := []) hp
    rw [List.append_nil, readF_empty] at this; exact this
  unfold rchF
  rw [e, readF_field (by simp; omega), readF_field hs, h0]
  simp [manyF, hr]
theorem bent_one : rchF ((helloOf r s p).take 1) = none := by
  refine rch_of_none (readF_one ?_ ?_) <;> simp [helloOf, fieldOf, be2]
end
theorem bent_empty : rchF [] = none := by
  unfold rchF; rw [readF_empty]; rfl
theorem bent_s_empty : rshF [] = none := by
  unfold rshF; rw [readF_empty]; rfl
theorem bent_s_more {r : List UInt8} (hr : r.length = 8) (x : UInt8) : rshF (fieldOf r ++ [x]) = none := by
  refine rsh_of_none ?_
  rw [readF_field (by omega), readF_single]; rfl
theorem bent_s_long {r : List UInt8} (hr : r.length = 8) (x : UInt8) : rshF (fieldOf (r ++ [x])) = none := by
  have := readF_field (d := r ++ [x]) (r := []) (by simp; omega)
  rw [List.append_nil, readF_empty] at this
  unfold rshF
  rw [this]
  simp [manyF, hr]
theorem bent_s_two {r : List UInt8} (hr : r.length = 8) : rshF (fieldOf r ++ fieldOf []) = none := by
  have h0 : readF (fieldOf []) = some [[]] := by
    have := readF_field (d := []) (r := []) (by decide)
    rw [List.append_nil, readF_empty] at this; exact this
  unfold rshF
  rw [readF_field (by omega), h0]
  rfl
end
-- CB
section
noncomputable abbrev Body := Nat × List UInt8
noncomputable def bodyDat (x : Body) : Dat := .tuple [.int ((x.1 : Nat) : Int), .bytes x.2.toArray]
noncomputable def okBody (x : Body) : Prop := x.1 < 256 ∧ x.2.length ≤ 8

/-! comprehensions with a test, and over pairs: an invariant for the turns -/
section
variable {prog : Program} {w : World} {A : Around} {h₀ : Heap} {L : Addr} {m : PySem.Str → Option Value} {env : Env} {ct elt : PySem.Expr} {x x₂ : PySem.Str} {scope : Scope} {cl : List (PySem.Str × Addr)} {s : Shared} {S : Led → Prop} {P : Nat → Value → Prop} {Fin : List Value → Led → Prop}
theorem compT_loop {n : Nat} (I : Nat → List Value → Led → Prop) {news : Led} (h0 : I 0 [] news)
    (step : ∀ i ys news, i < n → I i ys news → ∀ v J oJ oC C D m₂ h tk (E' : Value → Shared → Prop), P i v → LCg.NsObj oC m₂ → m₂ x = some v → Fr h₀ L h m → News h₀ L h ((J, oJ) :: (C, oC) :: (D, LCg.lst ys) :: news) → LCg.Off3 J C D news → ((@Ne Nat J C) ∧ (@Ne Nat J D) ∧ (@Ne Nat C D)) →
      wpAny (model prog w) A (isTrue ct (compEnvC scope cl C env) (eval ct (compEnvC scope cl C env))) (fun ok s' => if ok = true then
        wpAny (model prog w) A (eval elt (compEnvC scope cl C env)) (LCg.CompEnd h₀ L m { s with heap := h, toks := tk } J oJ C oC D (LCg.lst ys) S (fun y news' => I (i + 1) (ys ++ [y]) news')) E' s'
        else LCg.CompEnd h₀ L m { s with heap := h, toks := tk } J oJ C oC D (LCg.lst ys) S (fun _ news' => I (i + 1) ys news') Value.none s') E' { s with heap := h, toks := tk })
    (fin : ∀ ys news, I n ys news → Fin ys news) : LCt.CompRestT prog w A h₀ L m env ct elt x scope cl s S P Fin n 0 [] news := by
  have : ∀ k i ys news, i + k = n → I i ys news → LCt.CompRestT prog w A h₀ L m env ct elt x scope cl s S P Fin k i ys news := by
    intro k
    induction k with
    | zero =>
      intro i ys news e hI
      obtain rfl : i = n := by omega
      exact LCt.CompRestT.zero (fin _ _ hI)
    | succ k ih =>
      intro i ys news e hI
      refine LCt.CompRestT.succ fun v J oJ C oC D m₂ h tk E' hP hN hx F N off ne => ?_
      refine wpAny_mono (step i ys news (by omega) hI v J oJ oC C D m₂ h tk E' hP hN hx F N off ne) (fun ok s₂ z => ?_) fun _ _ z => z
      cases ok with
      | true =>
        simp only [if_true] at z ⊢
        exact wpAny_mono z (fun y s₃ z => compEnd_mono (fun y l q => ih (i + 1) _ l (by omega) q) z) fun _ _ z => z
      | false =>
        simp only [Bool.false_eq_true, if_false] at z ⊢
        exact compEnd_mono (fun y l q => ih (i + 1) _ l (by omega) q) z
  exact this n 0 [] news (by omega) h0
theorem compP_loop {n : Nat} (I : Nat → List Value → Led → Prop) {news : Led} (h0 : I 0 [] news)
    (step : ∀ i ys news, i < n → I i ys news → ∀ v, P i v → ∃ (t : Addr) (ot : Obj) (v₁ v₂ : Value) (nt : Nat), v = .ref t ∧ (t, ot) ∈ news ∧ ot.cls = .type "tuple" ∧ ot.data = .seq #[v₁, v₂] nt ∧
      ∀ J oJ oC C D m₂ h tk (E' : Value → Shared → Prop), LCg.NsObj oC m₂ → m₂ x = some v₁ → m₂ x₂ = some v₂ → Fr h₀ L h m → News h₀ L h ((J, oJ) :: (C, oC) :: (D, LCg.lst ys) :: news) → LCg.Off3 J C D news → ((@Ne Nat J C) ∧ (@Ne Nat J D) ∧ (@Ne Nat C D)) →
      wpAny (model prog w) A (eval elt (compEnvC scope cl C env)) (LCg.CompEnd h₀ L m { s with heap := h, toks := tk } J oJ C oC D (LCg.lst ys) S (fun y news' => I (i + 1) (ys ++ [y]) news')) E' { s with heap := h, toks := tk })
    (fin : ∀ ys news, I n ys news → Fin ys news) : LCp.CompRestP prog w A h₀ L m env elt x x₂ scope cl s S P Fin n 0 [] news := by
  have : ∀ k i ys news, i + k = n → I i ys news → LCp.CompRestP prog w A h₀ L m env elt x x₂ scope cl s S P Fin k i ys news := by
    intro k
    induction k with
    | zero =>
      intro i ys news e hI
      obtain rfl : i = n := by omega
      exact LCp.CompRestP.zero (fin _ _ hI)
    | succ k ih =>
      intro i ys news e hI
      refine LCp.CompRestP.succ fun v hP => ?_
      obtain ⟨t, ot, v₁, v₂, nt, e1, e2, e3, e4, st⟩ := step i ys news (by omega) hI v hP
      refine ⟨t, ot, v₁, v₂, nt, e1, e2, e3, e4, fun J oJ C oC D m₂ h tk E' hN hx hx2 F N off ne => ?_⟩
      exact wpAny_mono (st J oJ oC C D m₂ h tk E' hN hx hx2 F N off ne) (fun y s₂ z => compEnd_mono (fun y l q => ih (i + 1) _ l (by omega) q) z) fun _ _ z => z
  exact this n 0 [] news (by omega) h0
end
/-- the names that are known -/
theorem fr_known {h₀ h : Heap} {L : Addr} {m : PySem.Str → Option Value} {ps : List (PySem.Str × Value)} (h1 : ∀ p ∈ ps, m p.1 = some p.2) (F : Fr h₀ L h m) : Fr h₀ L h (kstB m ps) := by
  have : kstB m ps = m := funext fun y => kstB_eq h1 fun _ => rfl
  rw [this]; exact F
theorem allLt_lt {d : Addr} : ∀ {l : Led}, AllLt d l → ∀ p ∈ l, @LT.lt Nat _ p.1 d
  | [], _, _, h => nomatch h
  | _ :: _, x, p, h => by
    rcases List.mem_cons.mp h with rfl | h
    · exact x.1
    · exact allLt_lt x.2 p h
theorem allLt_ne {d : Addr} {l : Led} (x : AllLt d l) : ∀ p ∈ l, p.1 ≠ d := fun p hp => Nat.ne_of_lt (allLt_lt x p hp)
theorem off1_ne {D : Addr} : ∀ {l : Led}, LCg.Off1 D l → ∀ p ∈ l, p.1 ≠ D
  | [], _, _, h => nomatch h
  | _ :: _, x, p, h => by
    rcases List.mem_cons.mp h with rfl | h
    · exact x.1
    · exact off1_ne x.2 p h
end
-- CT
section
/-! plain laws of cut streams -/
noncomputable def wr (x : Body) : List UInt8 := writtenOf x.1 x.2
noncomputable def msgOf (x : Body) : Msg := (x.1.toUInt8, x.2, wr x)
noncomputable def wholeOf (bs : List Body) : List UInt8 := (bs.map wr).flatten
/-- how many of the messages stand whole in the first n octets -/
noncomputable def doneF : List Body → Nat → Nat
  | [], _ => 0
  | x :: r, n => if (wr x).length ≤ n then 1 + doneF r (n - (wr x).length) else 0
/-- where the messages end, the first beginning at s -/
noncomputable def endsF : List Body → Nat → List Nat
  | [], _ => []
  | x :: r, s => (s + (wr x).length) :: endsF r (s + (wr x).length)
theorem wr_length (x : Body) : (wr x).length = x.2.length + 4 := by rw [wr, writtenOf_length]
theorem wholeOf_cons (x : Body) (r : List Body) : wholeOf (x :: r) = wr x ++ wholeOf r := rfl
theorem wholeOf_snoc (l : List Body) (x : Body) : wholeOf (l ++ [x]) = wholeOf l ++ wr x := by
  simp [wholeOf]
theorem wholeOf_split (l : List Body) (k : Nat) : wholeOf l = wholeOf (l.take k) ++ wholeOf (l.drop k) := by
  unfold wholeOf
  rw [← List.flatten_append, ← List.map_append, List.take_append_drop]
theorem endsF_snoc : ∀ (l : List Body) (x : Body) (s : Nat), endsF (l ++ [x]) s = endsF l s ++ [s + (wholeOf l).length + (wr x).length]
  | [], x, s => by simp [endsF, wholeOf]
  | y :: l, x, s => by
    simp only [List.cons_append, endsF, endsF_snoc l x, wholeOf_cons, List.length_append, List.cons.injEq, true_and, Nat.add_assoc]
theorem endsF_length : ∀ (l : List Body) (s : Nat), (endsF l s).length = l.length
  | [], _ => rfl
  | x :: l, s => by simp [endsF, endsF_length l]
theorem endsF_ge : ∀ (l : List Body) (s : Nat), ∀ e ∈ endsF l s, s < e
  | [], _, _, h => nomatch h
  | x :: l, s, e, h => by
    have hx := wr_length x
    simp only [endsF, List.mem_cons] at h
    rcases h with rfl | h
    · omega
    · have := endsF_ge l _ e h; omega
theorem doneF_le : ∀ (l : List Body) (n : Nat), doneF l n ≤ l.length
  | [], _ => Nat.le_refl _
  | x :: l, n => by
    unfold doneF
    split
    · have := doneF_le l (n - (wr x).length); simp only [List.length_cons]; omega
    · exact Nat.zero_le _
theorem doneF_at : ∀ (l : List Body) (n : Nat), (wholeOf (l.take (doneF l n))).length ≤ n
  | [], _ => Nat.zero_le _
  | x :: l, n => by
    unfold doneF
    split
    · next h =>
      have := doneF_at l (n - (wr x).length)
      rw [Nat.add_comm, List.take_succ_cons, wholeOf_cons, List.length_append]; omega
    · exact Nat.zero_le _
/-- the program's count -/
theorem ends_count : ∀ (l : List Body) (s n : Nat), s ≤ n → ((endsF l s).filter fun e => decide (e ≤ n)).length = doneF l (n - s)
  | [], _, _, _ => rfl
  | x :: l, s, n, h => by
    unfold endsF doneF
    by_cases hx : (wr x).length ≤ n - s
    · rw [if_pos hx, List.filter_cons_of_pos (by simp; omega), List.length_cons, ends_count l _ n (by omega), Nat.sub_sub, Nat.add_comm]
    · rw [if_neg hx, List.filter_cons_of_neg (by simp; omega)]
      have : ((endsF l (s + (wr x).length)).filter fun e => decide (e ≤ n)) = [] := by
        refine List.filter_eq_nil_iff.mpr fun e he => ?_
        have := endsF_ge l _ e he
        simp; omega
      rw [this]; rfl
/-- the program's place: ([0] + ends)[k] -/
theorem ends_at : ∀ (l : List Body) (s k : Nat), k ≤ l.length → (s :: endsF l s)[k]? = some (s + (wholeOf (l.take k)).length)
  | _, s, 0, _ => by simp [wholeOf]
  | [], _, k + 1, h => absurd h (by simp)
  | x :: l, s, k + 1, h => by
    rw [List.getElem?_cons_succ, endsF, ends_at l _ k (by simpa using h), List.take_succ_cons, wholeOf_cons, List.length_append, Nat.add_assoc]
/-- a message that is not whole waits -/
theorem splitF_part {x : Body} {n : Nat} (hx : okBody x) (h : n < (wr x).length) : splitF 8 ((wr x).take n) = some ([], (wr x).take n) := by
  have hl := wr_length x
  by_cases h4 : n < 4
  · exact splitF_short (by simp; omega)
  · have h2 := hx.2
    have hv : valOf ((((wr x).take n).drop 1).take 3) = x.2.length := by
      rw [List.drop_take, List.take_take, show min 3 (n - 1) = 3 by omega]
      have := head3 x.1 x.2 []
      rw [List.append_nil] at this
      rw [wr, this, valOf_be3 (by omega)]
    refine splitF_wait (by simp; omega) (by rw [hv]; omega) (by rw [hv]; simp; omega)
/-- cut anywhere: what is whole comes, the rest waits -/
theorem splitF_cut : ∀ (l : List Body) (n : Nat), (∀ x ∈ l, okBody x) → n ≤ (wholeOf l).length →
    splitF 8 ((wholeOf l).take n) = some ((l.take (doneF l n)).map msgOf, ((wholeOf l).take n).drop (wholeOf (l.take (doneF l n))).length)
  | [], n, _, _ => by
    have : (wholeOf []).take n = [] := by simp [wholeOf]
    rw [this]
    exact splitF_short (by decide)
  | x :: l, n, hx, hn => by
    rw [wholeOf_cons] at hn ⊢
    rw [List.length_append] at hn
    have hk := hx x (by simp)
    have h2 := hk.2
    unfold doneF
    by_cases h : (wr x).length ≤ n
    · rw [if_pos h, List.take_append, List.take_of_length_le h]
      rw [show wr x = writtenOf x.1 x.2 from rfl, splitF_written hk.1 (by omega) (by omega), splitF_cut l _ (fun y hy => hx y (by simp [hy])) (by rw [show writtenOf x.1 x.2 = wr x from rfl]; omega)]
      rw [Nat.add_comm 1, List.take_succ_cons, wholeOf_cons, List.length_append, List.map_cons, Option.map_some, show writtenOf x.1 x.2 = wr x from rfl]
      congr 2
      rw [List.drop_append]
      rw [List.drop_of_length_le (show (wr x).length ≤ _ by omega), Nat.add_sub_cancel_left]
      rfl
    · rw [if_neg h]
      have e : (wr x ++ wholeOf l).take n = (wr x).take n := by rw [List.take_append_of_le_length (by omega)]
      rw [e, splitF_part hk (by omega)]
      simp [wholeOf]
theorem doneF_add : ∀ (l : List Body) (a b : Nat), a ≤ b → doneF l b = doneF l a + doneF (l.drop (doneF l a)) (b - (wholeOf (l.take (doneF l a))).length)
  | [], _, _, _ => rfl
  | x :: l, a, b, h => by
    by_cases hx : (wr x).length ≤ a
    · have e1 : doneF (x :: l) a = 1 + doneF l (a - (wr x).length) := by rw [doneF, if_pos hx]
      have e2 : doneF (x :: l) b = 1 + doneF l (b - (wr x).length) := by rw [doneF, if_pos (by omega)]
      rw [e1, e2, doneF_add l (a - (wr x).length) (b - (wr x).length) (by omega), Nat.add_comm 1 (doneF l (a - _)), List.drop_succ_cons, List.take_succ_cons, wholeOf_cons, List.length_append, Nat.sub_sub]
      omega
    · have e1 : doneF (x :: l) a = 0 := by rw [doneF, if_neg hx]
      rw [e1]
      simp [wholeOf]
/-- one turn of the law's loop: the rest of before and the next piece -/
theorem splitF_piece {l : List Body} {a b : Nat} (hx : ∀ x ∈ l, okBody x) (h : a ≤ b) (hb : b ≤ (wholeOf l).length) :
    ∃ ms, splitF 8 (((wholeOf l).take a).drop (wholeOf (l.take (doneF l a))).length ++ ((wholeOf l).take b).drop a) = some (ms, ((wholeOf l).take b).drop (wholeOf (l.take (doneF l b))).length)
      ∧ (l.take (doneF l a)).map msgOf ++ ms = (l.take (doneF l b)).map msgOf := by
  obtain ⟨k, hk⟩ : ∃ k, k = doneF l a := ⟨_, rfl⟩
  obtain ⟨s, hs⟩ : ∃ s, s = (wholeOf (l.take k)).length := ⟨_, rfl⟩
  have hsa : s ≤ a := by rw [hs, hk]; exact doneF_at l a
  have hw : wholeOf l = wholeOf (l.take k) ++ wholeOf (l.drop k) := wholeOf_split l k
  have e1 : ((wholeOf l).take a).drop s ++ ((wholeOf l).take b).drop a = (wholeOf (l.drop k)).take (b - s) := by
    have z : ((wholeOf l).take b).drop s = ((wholeOf l).take a).drop s ++ ((wholeOf l).take b).drop a := by
      have q : (wholeOf l).take b = (wholeOf l).take a ++ ((wholeOf l).take b).drop a := by
        conv => lhs; rw [← List.take_append_drop a ((wholeOf l).take b)]
        rw [List.take_take, Nat.min_eq_left h]
      conv => lhs; rw [q]
      rw [List.drop_append_of_le_length (by rw [List.length_take]; omega)]
    rw [← z, hw, List.drop_take, List.drop_append_of_le_length (by omega), hs, List.drop_length]; rfl
  have hlen : (wholeOf l).length = s + (wholeOf (l.drop k)).length := by
    conv => lhs; rw [hw]
    rw [List.length_append, hs]
  have hd := doneF_add l a b h
  rw [← hk] at hd ⊢
  rw [← hs] at hd ⊢
  rw [e1, splitF_cut (l.drop k) (b - s) (fun x hx' => hx x (List.mem_of_mem_drop hx')) (by omega)]
  refine ⟨((l.drop k).take (doneF (l.drop k) (b - s))).map msgOf, ?_, ?_⟩
  · have : ((wholeOf (l.drop k)).take (b - s)).drop (wholeOf ((l.drop k).take (doneF (l.drop k) (b - s)))).length = ((wholeOf l).take b).drop (wholeOf (l.take (doneF l b))).length := by
      have e3 : (wholeOf l).take b = wholeOf (l.take k) ++ (wholeOf (l.drop k)).take (b - s) := by
        conv => lhs; rw [hw]
        rw [List.take_append, List.take_of_length_le (by omega), hs]
      have e4 : wholeOf (l.take (doneF l b)) = wholeOf (l.take k) ++ wholeOf ((l.drop k).take (doneF (l.drop k) (b - s))) := by
        rw [hd, wholeOf, wholeOf, wholeOf, ← List.flatten_append, ← List.map_append, List.take_add]
      rw [e3, e4, List.length_append, List.drop_length_add_append]
    rw [this]
  · rw [← List.map_append, hd, List.take_add]
theorem wholeOf_len : ∀ (l : List Body), (∀ x ∈ l, okBody x) → (wholeOf l).length ≤ 12 * l.length
  | [], _ => Nat.le_refl _
  | x :: l, h => by
    have h1 := (h x (by simp)).2
    have h2 := wholeOf_len l fun y hy => h y (by simp [hy])
    rw [wholeOf_cons, List.length_append, wr_length, List.length_cons]
    omega
theorem doneF_zero : ∀ (l : List Body), doneF l 0 = 0
  | [] => rfl
  | x :: l => by
    have h := wr_length x
    rw [doneF, if_neg (by omega)]
end
-- CU
section
local macro_rules | `(tactic| walk_at "call ref") => `(tactic| ((with_reducible show wpAny _ _ (call (Value.ref _) _) _ _ _); refine Halt.go ?_))
local macro_rules | `(tactic| walk_at "CompSrc") => `(tactic| (refine Halt.go ?_))
local macro_rules | `(tactic| walk_at "Exists") => `(tactic| (refine Halt.go ?_))
theorem sub_c5 {α : Type} {a b c d e : α} {f k : List α} : ∀ p ∈ f ++ (a :: b :: c :: d :: e :: k), p ∈ a :: b :: c :: d :: e :: (k ++ f) := by
  intro p hp
  grind
theorem sub_c6 {α : Type} {a b c d e x : α} {f k : List α} : ∀ p ∈ a :: b :: c :: d :: e :: (x :: k ++ f), p ∈ x :: (f ++ (a :: b :: c :: d :: e :: k)) := by
  intro p hp
  grind
theorem apart_cut {foot tups : Led} {J C D x y : Addr} {oJ oC oD ox oy : Obj} (off2 : ∀ p ∈ (x, ox) :: (y, oy) :: (tups ++ foot), p.1 ≠ J ∧ p.1 ≠ C ∧ p.1 ≠ D) (ap : Apart foot ((x, ox) :: (y, oy) :: tups)) : Apart foot ((J, oJ) :: (C, oC) :: (D, oD) :: (x, ox) :: (y, oy) :: tups) := fun p hp q hq => by
  have z := off2 p (by simp [hp])
  simp only [List.mem_cons] at hq
  rcases hq with rfl | rfl | rfl | hq
  · exact z.1
  · exact z.2.1
  · exact z.2.2
  · exact ap p hp q (by simpa using hq)
theorem off_c {f tups foot' : Led} {J C D : Addr} {oJ oC oD : Obj} {x y T : Addr × Obj} (off2 : ∀ p ∈ x :: y :: (tups ++ foot'), p.1 ≠ J ∧ p.1 ≠ C ∧ p.1 ≠ D) (hlt : ∀ p ∈ f ++ (J, oJ) :: (C, oC) :: (D, oD) :: x :: y :: tups, @LT.lt Nat _ p.1 T.1) (ap : Apart f ((J, oJ) :: (C, oC) :: (D, oD) :: x :: y :: tups)) :
    LCg.Off3 J C D (x :: y :: (T :: tups ++ f)) := LCg.Off3.of fun p hp => by
  simp only [List.cons_append, List.mem_cons, List.mem_append] at hp
  rcases hp with rfl | rfl | rfl | hp | hp
  · exact off2 _ (by simp)
  · exact off2 _ (by simp)
  · exact ⟨Nat.ne_of_gt (hlt (J, oJ) (by simp)), Nat.ne_of_gt (hlt (C, oC) (by simp)), Nat.ne_of_gt (hlt (D, oD) (by simp))⟩
  · exact off2 _ (by simp [hp])
  · exact ⟨ap p hp (J, oJ) (by simp), ap p hp (C, oC) (by simp), ap p hp (D, oD) (by simp)⟩
theorem ap_c {f tups : Led} {a b c x y T : Addr × Obj} (hlt : ∀ p ∈ f ++ a :: b :: c :: x :: y :: tups, @LT.lt Nat _ p.1 T.1) (ap : Apart f (a :: b :: c :: x :: y :: tups)) : Apart f (x :: y :: T :: tups) := fun p hp q hq => by
  simp only [List.mem_cons] at hq
  rcases hq with rfl | rfl | rfl | hq
  · exact ap p hp _ (by simp)
  · exact ap p hp _ (by simp)
  · exact Nat.ne_of_lt (hlt p (by simp [hp]))
  · exact ap p hp _ (by simp [hq])
theorem ht_c {f tups : Led} {a b c T : Addr × Obj} {x y : Addr} {ox oy : Obj} (hlt : ∀ p ∈ f ++ a :: b :: c :: (x, ox) :: (y, oy) :: tups, @LT.lt Nat _ p.1 T.1) (ht : ∀ p ∈ tups, p.1 ≠ x ∧ p.1 ≠ y) : ∀ p ∈ T :: tups, p.1 ≠ x ∧ p.1 ≠ y := fun p hp => by
  rcases List.mem_cons.mp hp with rfl | hp
  · exact ⟨Nat.ne_of_gt (hlt (x, ox) (by simp)), Nat.ne_of_gt (hlt (y, oy) (by simp))⟩
  · exact ht p hp
/-- an item of the list of bodies -/
theorem body_at {tups : Led} {vals : List Value} {bs : List Body} {i : Nat} {v : Value} (h : DatAll tups vals (bs.map bodyDat)) (hi : vals[i]? = some v) : ∃ (x : Body) (t : Addr) (t1 t2 : Tok) (n : Nat), bs[i]? = some x ∧ v = .ref t ∧ (t, ({ cls := .type "tuple", data := .seq #[.int ((x.1 : Nat) : Int) t1, .bytes x.2.toArray t2] n } : Obj)) ∈ tups := by
  have hl := h.length
  have hlt : i < vals.length := (List.getElem?_eq_some_iff.mp hi).1
  have hlt2 : i < bs.length := by rw [hl, List.length_map] at hlt; exact hlt
  obtain ⟨v', e1, e2⟩ := h.get (k := i) (by simpa using hlt2)
  rw [hi] at e1
  cases e1
  rw [List.getElem_map] at e2
  refine ⟨bs[i], ?_⟩
  cases e2 with
  | @tuple a vs n _ m r =>
    cases r with
    | cons r1 r =>
      cases r with
      | cons r2 r =>
        cases r
        cases r1
        cases r2
        exact ⟨a, _, _, n, by simp [hlt2], rfl, m⟩

theorem sub_w {α : Type} {a b c d e : α} {f t k : List α} : ∀ p ∈ f ++ (a :: b :: c :: d :: e :: (t ++ k)), p ∈ a :: b :: c :: d :: e :: (t ++ (k ++ f)) := by
  intro p hp
  grind
theorem sub_w2 {α : Type} {a b c d e : α} {f t k : List α} : ∀ p ∈ a :: b :: c :: d :: e :: (t ++ (k ++ f)), p ∈ f ++ (a :: b :: c :: d :: e :: (t ++ k)) := by
  intro p hp
  grind
theorem split_open {foot : Led} {ra : Addr} {ds : List Dat} {bb : Array UInt8} (h : DatIn foot (.ref ra) (.tuple [.list ds, .bytes bb])) : ∃ (told : Addr) (tvals : List Value) (tn n5 : Nat) (u5 : Tok), (ra, ({ cls := .type "tuple", data := .seq #[.ref told, .bytes bb u5] n5 } : Obj)) ∈ foot ∧ (told, PySem.W.listOf tvals.toArray tn) ∈ foot ∧ DatAll foot tvals ds := by
  cases h with
  | @tuple a vs n _ m r =>
    cases r with
    | cons r1 r =>
      cases r with
      | cons r2 r =>
        cases r
        cases r2
        cases r1 with
        | @list a2 vs2 n2 _ m2 r2 => exact ⟨a2, vs2, n2, n, _, m, m2, r2⟩
theorem sub_x {α : Type} {x y a b c d e : α} {f t k s : List α} (hx : x ∈ f) (hy : y ∈ f) : ∀ p ∈ x :: y :: a :: b :: c :: d :: e :: (t ++ (k ++ (s ++ f))), p ∈ f ++ (a :: b :: c :: d :: e :: (t ++ (k ++ s))) := by
  intro p hp
  grind
theorem ends_item {vals : List Value} {es : List Nat} {i : Nat} {v : Value} (h : DatAll [] vals (es.map fun e => Dat.int ((e : Nat) : Int))) (hi : vals[i]? = some v) : ∃ (e : Nat) (t : Tok), es[i]? = some e ∧ v = .int ((e : Nat) : Int) t := by
  have hl := h.length
  have hlt : i < vals.length := (List.getElem?_eq_some_iff.mp hi).1
  have hlt2 : i < es.length := by rw [hl, List.length_map] at hlt; exact hlt
  obtain ⟨v', e1, e2⟩ := h.get (k := i) (by simpa using hlt2)
  rw [hi] at e1
  cases e1
  rw [List.getElem_map] at e2
  cases e2
  exact ⟨es[i], _, by simp [hlt2], rfl⟩
theorem pick_upto (items : Array Value) (k : Nat) : (slicePick items none (some (k : Int)) none).toList = items.toList.take k := by
  have e : sliceBounds none (some (k : Int)) none items.size = (((0 : Nat) : Int), ((min k items.size : Nat) : Int), 1) := by
    simp only [sliceBounds, Option.getD_none, show (1 : Int) > 0 by decide, if_true, if_neg (show ¬ ((k : Int) < 0) by omega)]
    congr 1
    congr 1
    omega
  rw [kmk_pick_nat _ e]
  show (items.toList.drop 0).take (min k items.size - 0) = _
  rw [List.drop_zero, Nat.sub_zero, ← Array.length_toList, kmk_take_min]
theorem sub_y {α : Type} {a0 a1 b c d e x y z : α} {t k s f : List α} : ∀ p ∈ d :: b :: x :: y :: z :: (t ++ ((k ++ f) ++ s)), p ∈ a0 :: a1 :: b :: c :: e :: d :: (a0 :: x :: y :: z :: (t ++ (k ++ (s ++ f)))) := by
  intro p hp
  grind
theorem cut_names {g h : Heap} {L f2 l D : Addr} {m m₀ : PySem.Str → Option Value} {k : Int} {rj wb : Array UInt8} {u5 tw : Tok} (F : Fr g L h m) (h0 : ∃ td, m (Str.ofString "done") = some (.int k td)) (h1 : m (Str.ofString "found") = some (.ref f2)) (h2 : m (Str.ofString "rest") = some (.bytes rj u5)) (h3 : m (Str.ofString "whole") = some (.bytes wb tw)) (h4 : m (Str.ofString "ends") = some (.ref l)) (h5 : m (Str.ofString "bodies") = some (.ref D))
    (h6 : ∀ z, z ≠ Str.ofString "later" → z ≠ Str.ofString "told" → z ≠ Str.ofString "done" → z ≠ Str.ofString "found" → z ≠ Str.ofString "rest" → z ≠ Str.ofString "whole" → z ≠ Str.ofString "ends" → z ≠ Str.ofString "bodies" → m z = m₀ z) :
    ∃ (td : Tok) (mV : PySem.Str → Option Value), (∀ z, z ≠ Str.ofString "later" → z ≠ Str.ofString "told" → z ≠ Str.ofString "done" → z ≠ Str.ofString "found" → z ≠ Str.ofString "rest" → z ≠ Str.ofString "whole" → z ≠ Str.ofString "ends" → z ≠ Str.ofString "bodies" → mV z = m₀ z) ∧ Fr g L h (kstB mV [(Str.ofString "done", .int k td), (Str.ofString "found", .ref f2), (Str.ofString "rest", .bytes rj u5), (Str.ofString "whole", .bytes wb tw), (Str.ofString "ends", .ref l), (Str.ofString "bodies", .ref D)]) := by
  obtain ⟨td, h0⟩ := h0
  refine ⟨td, m, h6, fr_known (fun p hp => ?_) F⟩
  simp only [List.mem_cons, List.not_mem_nil, or_false] at hp
  rcases hp with rfl | rfl | rfl | rfl | rfl | rfl
  · exact h0
  · exact h1
  · exact h2
  · exact h3
  · exact h4
  · exact h5
theorem ends_get {vals : List Value} {bs : List Body} {k : Nat} {t0 : Tok} (h : DatAll [] vals ((endsF bs 0).map fun e => Dat.int ((e : Nat) : Int))) (hk : k ≤ bs.length) : ∃ t, (Value.int 0 t0 :: vals)[k]? = some (.int (((wholeOf (bs.take k)).length : Nat) : Int) t) := by
  have h2 : DatAll [] (Value.int 0 t0 :: vals) ((0 :: endsF bs 0).map fun e => Dat.int ((e : Nat) : Int)) := .cons (.int _ _) h
  have hlt : k < ((0 :: endsF bs 0).map fun e => Dat.int ((e : Nat) : Int)).length := by
    rw [List.length_map, List.length_cons, endsF_length]; omega
  obtain ⟨v, e1, e2⟩ := h2.get hlt
  rw [List.getElem_map] at e2
  have e3 := ends_at bs 0 k hk
  rw [Nat.zero_add] at e3
  have e4 : (0 :: endsF bs 0)[k]'(by rw [List.length_cons, endsF_length]; omega) = (wholeOf (bs.take k)).length := by
    have := List.getElem?_eq_some_iff.mp e3
    obtain ⟨_, h⟩ := this
    exact h
  rw [e4] at e2
  cases e2
  exact ⟨_, e1⟩
theorem sub_p {α : Type} {a b c d : α} {t k : List α} : ∀ p ∈ a :: b :: c :: (d :: (t ++ k)), p ∈ d :: ([] ++ a :: b :: c :: (t ++ k)) := by
  intro p hp
  grind
structure CuS where
  at_ : Nat
  ta : Tok
  oA : Obj
  tr : Tok
  fl : Addr
  vals : List Value
  n : Nat
  led : Led
  foot : Led
noncomputable abbrev restOf (bs : List Body) (n : Nat) : List UInt8 := ((wholeOf bs).take n).drop (wholeOf (bs.take (doneF bs n))).length
noncomputable abbrev cuLed (L' l D : Addr) (o2 oE oD : Obj) (tups : Led) (c : CuS) : Led := (L' + 1 + 1, c.oA) :: (c.fl, PySem.W.listOf c.vals.toArray c.n) :: (l, oE) :: (D, oD) :: (L' + 1, o2) :: (tups ++ (c.led ++ c.foot))
structure CuF (b L' l D : Addr) (o2 oE oD : Obj) (tups : Led) (bs : List Body) (c : CuS) : Prop where
  cell : c.oA.data = .cell (some (.int c.at_ c.ta))
  dat : DatAll c.led c.vals (((bs.take (doneF bs c.at_)).map msgOf).map msgDat)
  box : IsBox b c.foot
  ap : Apart c.foot ((L' + 1 + 1, c.oA) :: (c.fl, PySem.W.listOf c.vals.toArray c.n) :: (l, oE) :: (D, oD) :: (L' + 1, o2) :: (tups ++ c.led))
  nl : @Ne Nat c.fl (L' + 1 + 1)
  nd : ∀ p ∈ c.led, p.1 ≠ L' + 1 + 1
local macro_rules | `(tactic| walk_at "binaryOp Add ref ref") => `(tactic| (refine Halt.go ?_))
local macro_rules | `(tactic| walk_at "exec If") => `(tactic| (refine Halt.go ?_))
local macro_rules | `(tactic| walk_at "compareOp NotEq bytes bytes") => `(tactic| (refine Halt.go ?_))
local macro_rules | `(tactic| walk_at "subscriptTail BinOp Name ref int") => `(tactic| (refine Halt.go ?_))
local macro_rules | `(tactic| walk_at "SrcLP") => `(tactic| (refine Halt.go ?_))
local macro_rules | `(tactic| walk_at "subscriptTail Name Slice ref ref") => `(tactic| (refine Halt.go ?_))
local macro_rules | `(tactic| walk_at "call builtin:len") => `(tactic| (walk_at "mine lenl"))
local macro_rules | `(tactic| walk_at "CompSrcT") => `(tactic| (refine Halt.go ?_))
local macro_rules | `(tactic| walk_at "exec While Compare") => `(tactic| (refine Halt.go ?_))
set_option maxHeartbeats 4000000 in
theorem cuts_ct (w : World) (b : Addr) (foot : Led) (hb : IsBox b foot) :
    CtC w 12 174 foot [.ref b] (fun r foot' => r = .bool true ∧ IsBox b foot') := by
  refine' ctc_defC (binds := [("box", .ref b)]) ?ho ?hcd ?hbind ?hkind ?hnd ?_ ?hco ?hgen ?hk
  case ho => k_dflt k_is
  case hcd => k_dflt k_is
  case hbind => with_unfolding_all rfl
  case hkind => rfl
  case hnd => decide
  case hco => rfl
  case hgen => rfl
  case hk => rfl
  intro p loose mean mg mb dp un gd cn cs L a ccd cl outer base g L' s₁ E cells hck Z B' X' T' hd hu
  obtain ⟨F', N', are, low⟩ := Z
  obtain ⟨o1, o2, rfl, c1, c2⟩ := CellsAre.two (n := "at") (n' := "box") are
  clear are
  have c1' : o1.data = .cell none := c1
  have c2' : o2.data = .cell (some (.ref b)) := c2
  clear c1 c2
  rw [show envOfC (Str.ofString "_law_cuts_right") _ L' 174 (Value.ref 173) = envX _ _ _ _ _ [(Str.ofString "at", L' + 1 + 1), (Str.ofString "box", L' + 1)] from rfl]
  refine wpC_abs fun QQ hQQ => ?_
  refine wpC_execs_cons (wpC_of ?_)
  have hlow : ∀ p ∈ foot, p.1 < L' := fun p hp => low p hp
  have apA : ApartA foot [L' + 1 + 1, L' + 1] := fun p hp a ha => by
    simp only [List.mem_cons, List.not_mem_nil, or_false] at ha
    rcases ha with rfl | rfl
    · exact Nat.ne_of_lt (Nat.lt_succ_of_lt (Nat.lt_succ_of_lt (hlow p hp)))
    · exact Nat.ne_of_lt (Nat.lt_succ_of_lt (hlow p hp))
  have N1 : News g L' s₁.heap ((L' + 1 + 1, o1) :: (L' + 1, o2) :: foot) := N'
  clear N' low
  refine LCg.Assign_ListComp_U (F₀ := F') (by rfl) (by with_unfolding_all rfl) (by with_unfolding_all rfl) (by decide) (by rfl) (by decide) (by rfl) (by rfl) (by rfl) ?_
  k_steps
  unfold Halt
  refine' ct_useF (rest := [(L' + 1 + 1, o1), (L' + 1, o2)]) (take_ct w b foot hb 3 _ (by decide)) ?sub ?ap ?B ?F ?X ?N ?T ?hk ?hd ?hu ?_
  case sub => exact sub_swap
  case ap => exact apA.to rfl
  walk_at "mine use"
  intro r h1 tk1 foot1 F1 N2 ap1 hP
  obtain ⟨hb1, k1, t1, hk1, rfl⟩ := hP
  replace N2 := news_swap N2
  simp only [List.cons_append, List.nil_append] at N2
  clear N1 hb apA
  have apA := ApartA.of ap1 rfl
  dsimp only
  k_steps
  unfold Halt
  have e1k : (1 : Int) + (k1 : Int) = ((1 + k1 : Nat) : Int) := by omega
  refine LCg.CompSrc.range (n := 1 + k1) (by rfl) (by assumption) (by assumption) (by assumption) (by rw [e1k]; exact range_small (by omega)) (by rw [e1k]; exact range_size _) (Nat.le_trans (show 1 + k1 ≤ 10 by omega) (by decide)) fun g' => ?_
  refine comp_loop (fun i ys news => ∃ (foot' tups : Led) (bs : List Body), news = (L' + 1 + 1, o1) :: (L' + 1, o2) :: (tups ++ foot') ∧ IsBox b foot' ∧ Apart foot' ((L' + 1 + 1, o1) :: (L' + 1, o2) :: tups) ∧ (∀ p ∈ tups, p.1 ≠ L' + 1 + 1 ∧ p.1 ≠ L' + 1) ∧ DatAll tups ys (bs.map bodyDat) ∧ bs.length = i ∧ ∀ x ∈ bs, okBody x)
    ⟨foot1, [], [], rfl, hb1, ap1, (fun _ z => nomatch z), .nil, rfl, fun _ z => nomatch z⟩ ?step ?fin
  case step =>
    intro i ys news hi hI v J oJ oC C D m₂ h tk E' hP hN hx F2 N3 off ne
    obtain ⟨foot', tups, bs, rfl, hb', ap', ht', hD', hlen', hok'⟩ := hI
    have off2 := LCg.Off3.mem off
    have apR := apart_cut (oJ := oJ) (oC := oC) (oD := LCg.lst ys) off2 ap'
    refine wpAny_abs fun R3 hR3 => ?_
    k_steps
    unfold Halt
    refine' ct_useF (rest := (J, oJ) :: (C, oC) :: (D, LCg.lst ys) :: (L' + 1 + 1, o1) :: (L' + 1, o2) :: tups) (take_ct w b foot' hb' 256 _ (by decide)) ?sub ?ap ?B ?F ?X ?N ?T ?hk ?hd ?hu ?_
    case sub => exact sub_c5
    case ap => exact apR
    walk_at "mine use"
    intro r h2 tk2 foot2 F3 N4 ap2 hP
    obtain ⟨hb2, k2, t2, hk2, rfl⟩ := hP
    clear N3 F2 hb' apR
    dsimp only
    k_steps
    unfold Halt
    refine' ct_useF (rest := (J, oJ) :: (C, oC) :: (D, LCg.lst ys) :: (L' + 1 + 1, o1) :: (L' + 1, o2) :: tups) (take_ct w b foot2 hb2 9 _ (by decide)) ?sub ?ap ?B ?F ?X ?N ?T ?hk ?hd ?hu ?_
    case sub => exact fun p hp => hp
    case ap => exact ap2
    walk_at "mine use"
    intro r h3 tk3 foot3 F4 N5 ap3 hP
    obtain ⟨hb3, k3, t3, hk3, rfl⟩ := hP
    clear N4 F3 ap2 hb2
    dsimp only
    k_steps
    unfold Halt
    refine' ct_useF (rest := (J, oJ) :: (C, oC) :: (D, LCg.lst ys) :: (L' + 1 + 1, o1) :: (L' + 1, o2) :: tups) (octets_ct w b foot3 hb3 k3 _ (by omega)) ?sub ?ap ?B ?F ?X ?N ?T ?hk ?hd ?hu ?_
    case sub => exact fun p hp => hp
    case ap => exact ap3
    walk_at "mine use"
    intro r h4 tk4 foot4 F5 N6 ap4 hP
    obtain ⟨hb4, l, t4, hl, rfl⟩ := hP
    clear N5 F4 ap3 hb3
    dsimp only
    k_steps
    with_reducible rename News _ _ _ _ => N7
    with_reducible rename Fr _ _ _ _ => F6
    with_reducible rename ∀ p ∈ _ ++ _, _ => hlt
    refine hR3 _ _ (LCg.CompEnd.intro F6 N7 ((L' + 1 + 1, o1) :: (L' + 1, o2) :: (_ :: tups ++ foot4)) sub_c6 (off_c off2 hlt ap4) trivial ⟨foot4, _ :: tups, bs ++ [(k2, l)], rfl, hb4, ap_c hlt ap4, ht_c hlt ht', ?dat, by simp [hlen'], ?ok⟩)
    case dat =>
      rw [List.map_append]
      refine DatAll.append (hD'.mono fun p hp => List.mem_cons_of_mem _ hp) (DatAll.one ?_)
      exact DatIn.tuple (vs := [_, _]) (List.mem_cons_self ..) (.cons (.int _ _) (.cons (.bytes _ _) .nil))
    case ok =>
      intro x hx
      rcases List.mem_append.mp hx with hx | hx
      · exact hok' x hx
      · rw [List.mem_singleton.mp hx]
        exact ⟨hk2, by show l.length ≤ 8; omega⟩
  case fin =>
    intro ys news hI
    obtain ⟨foot', tups, bs, rfl, hb', ap', ht', hD', hlen', hok'⟩ := hI
    intro D h tk F2 N3 off
    dsimp only
    refine wpC_execs_cons (wpC_of ?_)
    k_steps
    dsimp only
    with_reducible rename News _ _ _ _ => N4
    with_reducible rename Fr _ _ _ _ => F3
    rename_i l _ _ T _ _ _ _ _
    with_reducible rename _ < _ ∧ _ < _ ∧ _ < _ ∧ AllLt _ _ => l1
    have al := allLt_ne l1.2.2.2
    have al1 : ∀ p ∈ tups, p.1 ≠ l := fun p hp => al p (List.mem_append_left _ hp)
    have al2 : ∀ p ∈ foot', p.1 ≠ l := fun p hp => al p (List.mem_append_right _ hp)
    replace N4 : News g L' _ ((l, PySem.W.listOf #[] 0) :: (D, LCg.lst ys) :: (L' + 1 + 1, o1) :: (L' + 1, o2) :: (tups ++ foot')) := fun p hp => N4 p (List.mem_cons_of_mem _ hp)
    refine wpC_execs_cons (wpC_ForList (ax := D) (its := ys.toArray) (k := ys.length) (news := (l, PySem.W.listOf #[] 0) :: (D, LCg.lst ys) :: (L' + 1 + 1, o1) :: (L' + 1, o2) :: (tups ++ foot'))
      (fun i m nw => ∃ (vals : List Value) (n : Nat) (tw : Tok), nw = (l, PySem.W.listOf vals.toArray n) :: (D, LCg.lst ys) :: (L' + 1 + 1, o1) :: (L' + 1, o2) :: (tups ++ foot') ∧ DatAll [] vals ((endsF (bs.take i) 0).map fun e => Dat.int ((e : Nat) : Int)) ∧ m (Str.ofString "whole") = some (.bytes (wholeOf (bs.take i)).toArray tw) ∧ m (Str.ofString "ends") = some (.ref l) ∧ m (Str.ofString "bodies") = some (.ref D))
      F3 rfl ?hi ?hm ⟨[], 0, _, rfl, .nil, rfl, rfl, rfl⟩ ?step ?fin)
    case hi =>
      walk1
      exact ⟨rfl, ⟨_, _, rfl⟩, F3, N4⟩
    case hm => simp
    case step =>
      intro i v J oJ m₁ nw h5 tk5 hv hJ offJ hmem F5 N5
      obtain ⟨vals, n, tw, rfl, hds, mw, me, mb⟩ := hJ
      have F6 := fr_known (ps := [(Str.ofString "whole", .bytes (wholeOf (bs.take i)).toArray tw), (Str.ofString "ends", .ref l), (Str.ofString "bodies", .ref D)]) (fun p hp => by
        simp only [List.mem_cons, List.not_mem_nil, or_false] at hp
        rcases hp with rfl | rfl | rfl
        · exact mw
        · exact me
        · exact mb) F5
      clear F5 mw me mb F3 N4
      obtain ⟨x, t, t1, t2, nt, hx, rfl, hmt⟩ := body_at hD' (by simpa using hv)
      have hok := hok' x (List.mem_of_getElem? hx)
      have hx8 : x.2.length ≤ 8 := hok.2
      refine assign_Tuple_tuple (t := t) (items := #[.int ((x.1 : Nat) : Int) t1, .bytes x.2.toArray t2]) (by rfl) ⟨_, (N5 _ (List.mem_cons_of_mem _ (List.mem_cons_of_mem _ (List.mem_cons_of_mem _ (List.mem_cons_of_mem _ (List.mem_cons_of_mem _ (List.mem_append_left foot' hmt))))))).1, rfl, nt, rfl⟩ rfl rfl fun h6 he => ?_
      have he' : ∀ b o, h5.get? b = some o → h6.get? b = some o := fun b o e => he b o (Nat.ne_of_lt (Heap.lt_size e)) e
      replace F6 := F6.keeps he'
      replace N5 := N5.grown he'
      clear he he'
      k_steps
      dsimp only
      refine wpC_abs fun R4 hR4 => ?_
      refine wpC_execs_cons (wpC_If (wpC_isTrue_Compare1 (wpC_Call ?_)))
      walk1
      refine wpC_callWith (K := htop.heap_1 w.params) (by k_dflt k_is) (wpC_args_cons (wpC_of ?_))
      walk1
      refine wpC_args_cons (wpC_of ?_)
      walk1
      refine wpC_args_nil ⟨by k_in, ?_⟩
      refine' ctc_use0 (put_message_ct w x.1 _ x.2 _ hok.1 (by have := hok.2; omega)) ?B ?F ?X ?N ?T ?hk ?hd ?hu ?_
      walk_at "mine use"
      intro r h7 tk7 foot7 F7 N7 ap7 hP
      obtain ⟨rfl, t7, rfl⟩ := hP
      refine wpC_of ?_
      k_steps
      unfold Halt
      refine' ct_use0 (written_ct w x.1 _ x.2 _ hok.1 (by have := hok.2; omega)) ?B ?F ?X ?N ?T ?hk ?hd ?hu ?_ (fun z => nomatch z)
      walk_at "mine use"
      intro r h8 tk8 foot8 F8 N8 ap8 hP
      obtain ⟨rfl, t8, rfl⟩ := hP
      dsimp only
      refine wpC_of ?_
      refine ne_b ?_
      rw [bne_self_eq_false]
      refine wpC_of ?_
      walk1
      simp only [Bool.false_eq_true, if_false]
      refine wpC_of (wpAny_execs_nil ?_)
      dsimp only
      refine wpC_of ?_
      simp only [List.nil_append] at N8
      have hwl : (wholeOf (bs.take i)).length ≤ 12 * (bs.take i).length := wholeOf_len _ fun y hy => hok' y (List.mem_of_mem_take hy)
      rw [List.length_take] at hwl
      have hvl : vals.length ≤ 3 := by
        have := hds.length
        rw [List.length_map, endsF_length, List.length_take] at this
        omega
      have hJl : @Ne Nat J l := Ne.symm (offJ (l, _) (List.mem_cons_self ..))
      have hal : ∀ p ∈ (D, LCg.lst ys) :: (L' + 1 + 1, o1) :: (L' + 1, o2) :: (tups ++ foot'), p.1 ≠ l := fun p hp => by
        simp only [List.mem_cons] at hp
        rcases hp with rfl | rfl | rfl | hp
        · exact Nat.ne_of_lt l1.1
        · exact Nat.ne_of_lt l1.2.1
        · exact Nat.ne_of_lt l1.2.2.1
        · exact al p hp
      k_steps
      unfold Halt
      refine' ct_use0 (written_ct w x.1 _ x.2 _ hok.1 (by have := hok.2; omega)) ?B ?F ?X ?N ?T ?hk ?hd ?hu ?_ (fun z => nomatch z)
      walk_at "mine use"
      intro r h9 tk9 foot9 F9 N9 ap9 hP
      obtain ⟨rfl, t9, rfl⟩ := hP
      dsimp only
      k_steps
      with_reducible rename News _ _ _ _ => N10
      with_reducible rename Fr _ _ _ _ => F10
      have ht1 : bs.take (i + 1) = bs.take i ++ [x] := by rw [List.take_succ, hx]; rfl
      refine' hR4 .next _ ⟨_, _, _, (l, _) :: (D, LCg.lst ys) :: (L' + 1 + 1, o1) :: (L' + 1, o2) :: (tups ++ foot'), rfl, F10, N10, ?offs, ?hmm, _, _, _, rfl, ?dats, ?wh, ?en, ?bo⟩
      case hmm => simp
      case offs =>
        intro p hp
        rcases List.mem_cons.mp hp with rfl | hp
        · exact Ne.symm hJl
        · exact offJ p (List.mem_cons_of_mem _ hp)
      case dats =>
        rw [ht1, endsF_snoc, List.map_append]
        refine DatAll.append hds (DatAll.one ?_)
        rw [List.length_append, Nat.zero_add]
        exact .int _ _
      case wh =>
        rw [ht1, wholeOf_snoc]
        rfl
      case en => rfl
      case bo => rfl
    case fin =>
      intro m₁ nw h5 tk5 hJ F5 N5
      obtain ⟨vals, n, tw, rfl, hds, mw, me, mb⟩ := hJ
      have hsz : ys.toArray.size = bs.length := by have := hD'.length; simpa using this
      rw [hsz, List.take_length] at hds mw
      have F6 := fr_known (ps := [(Str.ofString "whole", .bytes (wholeOf bs).toArray tw), (Str.ofString "ends", .ref l), (Str.ofString "bodies", .ref D)]) (fun p hp => by
        simp only [List.mem_cons, List.not_mem_nil, or_false] at hp
        rcases hp with rfl | rfl | rfl
        · exact mw
        · exact me
        · exact mb) F5
      clear F5 mw me mb F3 N4
      dsimp only
      refine wpC_of ?_
      have at1 : ∀ p ∈ tups, p.1 ≠ L' + 1 + 1 := fun p hp => (ht' p hp).1
      have at2 : ∀ p ∈ foot', p.1 ≠ L' + 1 + 1 := fun p hp => ap' p hp (L' + 1 + 1, o1) (List.mem_cons_self ..)
      have off1 := off
      simp only [LCg.Off1] at off1
      have hD1 : @Ne Nat D (L' + 1 + 1) := Ne.symm off1.1
      have hl1 : @Ne Nat l (L' + 1 + 1) := Nat.ne_of_gt l1.2.1
      k_steps
      unfold Halt
      with_reducible rename News _ _ _ _ => N7
      with_reducible rename Fr _ _ _ _ => F7
      with_reducible rename _ = Data.cell (some (Value.int _ _)) => dA
      with_reducible rename _ < _ ∧ _ < _ ∧ _ < _ ∧ _ < _ ∧ AllLt _ (tups ++ foot') => l5
      have al5 := allLt_ne l5.2.2.2.2
      rename_i l5a _ D5 _ _ _ _ oA _ _
      have apI : Apart foot' ((L' + 1 + 1, oA) :: (l5a, PySem.W.listOf #[] 0) :: (l, PySem.W.listOf vals.toArray n) :: (D, LCg.lst ys) :: (L' + 1, o2) :: (tups ++ [])) := fun p hp q hq => by
        simp only [List.append_nil, List.mem_cons] at hq
        rcases hq with rfl | rfl | rfl | rfl | rfl | hq
        · exact at2 p hp
        · exact al5 p (List.mem_append_right _ hp)
        · exact al2 p hp
        · exact off1_ne off p (by simp [hp])
        · exact ap' p hp (L' + 1, o2) (by simp)
        · exact ap' p hp q (by simp [hq])
      obtain ⟨m₀, hm₀, F7⟩ : ∃ m₀, m₀ = _ ∧ Fr g L' _ m₀ := ⟨_, rfl, F7⟩
      refine ksw_while (σ := CuS) (cuLed L' l D o2 (PySem.W.listOf vals.toArray n) (LCg.lst ys) tups) (fun c => [(Str.ofString "rest", .bytes (restOf bs c.at_).toArray c.tr), (Str.ofString "found", .ref c.fl), (Str.ofString "whole", .bytes (wholeOf bs).toArray tw), (Str.ofString "ends", .ref l), (Str.ofString "bodies", .ref D)])
        (CuF b L' l D o2 (PySem.W.listOf vals.toArray n) (LCg.lst ys) tups bs) [Str.ofString "later", Str.ofString "told", Str.ofString "done"] (fun c => c.at_ ≤ (wholeOf bs).length) (fun c => (wholeOf bs).length - c.at_)
        ⟨0, tk5, oA, tk5 + 1, l5a, [], 0, [], foot'⟩ F7 (fun p hp => N7 p ?sub) ⟨dA, ?dat0, hb', apI, Nat.ne_of_gt l5.2.2.1, fun _ z => nomatch z⟩ ?ps0 (Nat.zero_le _) ?turn
      case sub =>
        clear N7
        simp only [cuLed, List.mem_cons, List.nil_append] at hp ⊢
        grind
      case dat0 =>
        rw [doneF_zero]
        exact .nil
      case ps0 =>
        subst hm₀
        intro p hp
        simp only [List.mem_cons, List.not_mem_nil, or_false] at hp
        rcases hp with rfl | rfl | rfl | rfl | rfl
        · have e0 : restOf bs 0 = [] := by simp [restOf]
          show _ = some (Value.bytes (restOf bs 0).toArray (tk5 + 1))
          rw [e0]
          rfl
        · rfl
        · rfl
        · rfl
        · rfl
      case turn =>
        clear N7 F7 apI l5 al5 dA hb' ap' at2 hm₀
        rintro ⟨at_, ta, oB, tr, fl, fvals, fn, fled, ft⟩ uu h7 tk7 ⟨dB, dF, hbF, apF, nl, nd⟩ hk F8 N8
        have hb3 : bs.length ≤ 3 := by omega
        have e21 : @Ne Nat (L' + 1) (L' + 1 + 1) := Nat.ne_of_lt (Nat.lt_succ_self _)
        clear l1 al al1 al2 off1 off ht' hsz hlow ap1 hb1 apA hk1 hlen' e1k
        dsimp only at *
        replace F8 : ∃ mU : PySem.Str → Option Value, (∀ z, z ≠ Str.ofString "later" → z ≠ Str.ofString "told" → z ≠ Str.ofString "done" → mU z = m₀ z) ∧ Fr g L' h7 (kstB mU [(Str.ofString "rest", .bytes (restOf bs at_).toArray tr), (Str.ofString "found", .ref fl), (Str.ofString "whole", .bytes (wholeOf bs).toArray tw), (Str.ofString "ends", .ref l), (Str.ofString "bodies", .ref D)]) := ⟨_, fun z z1 z2 z3 => by simp [z1, z2, z3], F8⟩
        obtain ⟨mU, hmU, F8⟩ := F8
        have at3 : ∀ p ∈ ft, p.1 ≠ L' + 1 + 1 := fun p hp => apF p hp (L' + 1 + 1, oB) (List.mem_cons_self ..)
        have hwb := wholeOf_len bs hok'
        refine turn_abs fun R5 hR5 => ?_
        simp only [cuLed] at N8
        k_steps
        · unfold Halt
          refine' ct_useF (rest := (L' + 1 + 1, oB) :: (fl, PySem.W.listOf fvals.toArray fn) :: (l, PySem.W.listOf vals.toArray n) :: (D, LCg.lst ys) :: (L' + 1, o2) :: (tups ++ fled)) (take_ct w b ft hbF 6 _ (by decide)) ?sub ?ap ?B ?F ?X ?N ?T ?hk ?hd ?hu ?_
          case sub => exact sub_w
          case ap => exact apF
          walk_at "mine use"
          intro r h8 tk8 ft2 F9 N9 apG hP
          obtain ⟨hbG, k2, t2, hk2, rfl⟩ := hP
          replace N9 := fun p hp => N9 p (sub_w2 p hp)
          dsimp only
          k_steps
          dsimp only
          rename_i F10x N10x _ _ _ _
          obtain ⟨j, hj, hj1, hj2⟩ : ∃ j : Nat, (if (at_ : Int) + 1 + (k2 : Int) < ((wholeOf bs).length : Int) then (at_ : Int) + 1 + (k2 : Int) else ((wholeOf bs).length : Int)) = (j : Int) ∧ at_ < j ∧ j ≤ (wholeOf bs).length := by
            split
            · exact ⟨at_ + 1 + k2, by omega, by omega, by omega⟩
            · exact ⟨(wholeOf bs).length, rfl, by omega, Nat.le_refl _⟩
          with_reducible rename News _ _ _ _ => N10
          with_reducible rename Fr _ _ _ _ => F10
          rw [hj, cut_ab _ (Int.natCast_nonneg _) (Int.natCast_nonneg _), Int.toNat_natCast, Int.toNat_natCast, ← List.drop_take]
          rw [hj] at F10
          refine add_b ?_ fun t9 k9 => ?_
          · simp only [List.length_drop, List.length_take]
            omega
          k_steps
          unfold Halt
          obtain ⟨ms, hs1, hs2⟩ := splitF_piece hok' (Nat.le_of_lt hj1) hj2
          refine' ct_use0 (split_ct w (restOf bs at_ ++ ((wholeOf bs).take j).drop at_) 8 _ _ ?_ (by decide)) ?B ?F ?X ?N ?T ?hk ?hd ?hu ?_ (fun z => by rw [hs1] at z; cases z)
          · simp only [List.length_append, List.length_drop, List.length_take]
            omega
          walk_at "mine use"
          intro r h9 tk9 foot5 F11 N11 ap5 hP
          obtain ⟨ms', rest', hms, hin5⟩ := hP
          rw [hs1] at hms
          cases hms
          obtain ⟨ra, rfl⟩ := datIn_tup hin5
          obtain ⟨told, tvals, tn, n5, u5, hra, htl, htd⟩ := split_open hin5
          have N12 : News g L' h9 ((ra, _) :: (told, _) :: (L' + 1 + 1, oB) :: (fl, PySem.W.listOf fvals.toArray fn) :: (l, PySem.W.listOf vals.toArray n) :: (D, LCg.lst ys) :: (L' + 1, o2) :: (tups ++ (fled ++ (ft2 ++ foot5)))) := fun p hp => N11 p (sub_x hra htl p hp)
          have f5 : ∀ p ∈ foot5, p.1 ≠ L' + 1 + 1 := fun p hp => ap5 p hp (L' + 1 + 1, oB) (List.mem_cons_self ..)
          have at4 : ∀ p ∈ ft2, p.1 ≠ L' + 1 + 1 := fun p hp => apG p hp (L' + 1 + 1, oB) (List.mem_cons_self ..)
          have hra1 : @Ne Nat ra (L' + 1 + 1) := f5 _ hra
          have htl1 : @Ne Nat told (L' + 1 + 1) := f5 _ htl
          have hfl : fvals.length ≤ 3 := by
            have := dF.length
            simp only [List.length_map, List.length_take] at this
            omega
          have htvl : tvals.length ≤ 3 := by
            have h1 := htd.length
            have h2 := congrArg List.length hs2
            simp only [List.length_append, List.length_map, List.length_take] at h1 h2
            omega
          clear N11 N10 F10
          dsimp only
          k_steps
          unfold Halt
          with_reducible rename News _ _ _ _ => N13
          with_reducible rename Fr _ _ _ _ => F13
          refine kmk_add_lit (zs := fvals ++ tvals) F13 N13 ⟨_, (N13 (fl, PySem.W.listOf fvals.toArray fn) (by simp)).1, rfl, _, rfl⟩ ⟨_, (N13 (told, PySem.W.listOf tvals.toArray tn) (by simp)).1, rfl, _, rfl⟩ (by simp) (fun f2 h10 F14 N14 l2 => ?_) (by show fvals.length + tvals.length ≤ sizeLine; exact Nat.le_trans (show fvals.length + tvals.length ≤ 6 by omega) (by decide))
          have hf2 : @Ne Nat f2 (L' + 1 + 1) := Nat.ne_of_gt (l2 (L' + 1 + 1, oB) (by simp))
          clear N13 F13
          dsimp only
          k_steps
          unfold Halt
          with_reducible rename News _ _ _ _ => N15
          with_reducible rename Fr _ _ _ _ => F15
          with_reducible rename _ = Data.cell (some (Value.int ((j : Nat) : Int) _)) => dO
          obtain ⟨led15, hled, N15⟩ : ∃ led15 : Led, led15 = _ ∧ News g L' _ led15 := ⟨_, rfl, N15⟩
          have hml : (l, PySem.W.listOf vals.toArray n) ∈ led15 := by rw [hled]; simp
          have hS : LCg.SrcAt g l vals.toArray led15 := .inr ⟨_, hml, rfl, n, rfl⟩
          refine LCt.CompSrcT.ledger (ax := l) (its := vals.toArray) (k := n) (by rfl) F15 N15 hml (Nat.le_trans (show vals.length ≤ 3 by have := hds.length; rw [List.length_map, endsF_length] at this; omega) (by decide)) fun g' => ?_
          refine compT_loop (fun i ys news => news = led15 ∧ DatAll [] ys ((((endsF bs 0).take i).filter fun e => decide (e ≤ j)).map fun e => Dat.int ((e : Nat) : Int))) ⟨rfl, .nil⟩ ?tstep ?tfin
          case tstep =>
            intro i ys2 news hi hI v J oJ oC C D3 m₂ h11 tk11 E' hP hN hx F16 N16 off16 ne16
            obtain ⟨rfl, hdy⟩ := hI
            obtain ⟨e, te, he, rfl⟩ := ends_item hds (by simpa using hP)
            subst hled
            k_steps
            · refine LCg.CompEnd.intro F16 N16 _ (fun p hp => hp) off16 hS ⟨rfl, ?_⟩
              rw [List.take_succ, he, List.filter_append, List.map_append]
              refine hdy.append ?_
              rw [Option.toList_some, List.filter_cons_of_pos (by simp; omega)]
              exact .one (.int _ _)
            · refine LCg.CompEnd.intro F16 N16 _ (fun p hp => hp) off16 hS ⟨rfl, ?_⟩
              rw [List.take_succ, he, List.filter_append, List.map_append, Option.toList_some, List.filter_cons_of_neg (by simp; omega), List.filter_nil, List.map_nil, List.append_nil]
              exact hdy
          case tfin =>
            intro ys2 news hI D3 h12 tk12 F17 N17 o17
            obtain ⟨rfl, hdy⟩ := hI
            have hdn : ys2.length = doneF bs j := by
              have h1 := hdy.length
              have h2 : vals.toArray.size = (endsF bs 0).length := by have := hds.length; simpa using this
              rw [h2, List.take_length, List.length_map, ends_count _ _ _ (Nat.zero_le _), Nat.sub_zero] at h1
              exact h1
            have hdl := doneF_le bs j
            subst hled
            clear N15 F15 hdy
            dsimp only
            k_steps
            unfold Halt
            with_reducible rename News _ _ _ _ => N18
            with_reducible rename Fr _ _ _ _ => F18
            obtain ⟨td, mV, hmV, F19⟩ := cut_names (rj := (restOf bs j).toArray) (m₀ := m₀) F18 ⟨_, rfl⟩ rfl rfl rfl rfl rfl (fun z z1 z2 z3 z4 z5 z6 z7 z8 => by simp [kstB, z1, z2, z3, z4, z5, z6, z7, z8, hmU z z1 z2 z3])
            obtain ⟨oN, tj, eN, N19⟩ : ∃ (oN : Obj) (tj : Tok), oN.data = .cell (some (.int ((j : Nat) : Int) tj)) ∧ News g L' _ ((L' + 1 + 1, oN) :: (f2, PySem.W.listOf (fvals ++ tvals).toArray 0) :: (l, PySem.W.listOf vals.toArray n) :: (D, LCg.lst ys) :: (L' + 1, o2) :: (tups ++ ((fled ++ foot5) ++ ft2))) := by
              refine ⟨_, _, dO, fun p hp => N18 p ?_⟩
              clear N18 F18 hS hml o17 l2 apG ap5 apF
              simp only [List.mem_cons, List.mem_append] at hp ⊢
              rcases hp with rfl | rfl | rfl | rfl | rfl | hp | (hp | hp) | hp <;> simp [*]
            have hms2 : DatAll (fled ++ foot5) (fvals ++ tvals) (((bs.take (doneF bs j)).map msgOf).map msgDat) := by
              rw [← hs2, List.map_append]
              exact DatAll.append (dF.mono fun p hp => List.mem_append_left _ hp) (htd.mono fun p hp => List.mem_append_right _ hp)
            have hap2 : Apart ft2 ((L' + 1 + 1, oN) :: (f2, PySem.W.listOf (fvals ++ tvals).toArray 0) :: (l, PySem.W.listOf vals.toArray n) :: (D, LCg.lst ys) :: (L' + 1, o2) :: (tups ++ (fled ++ foot5))) := fun p hp q hq => by
              simp only [List.mem_cons, List.mem_append] at hq
              rcases hq with rfl | rfl | rfl | rfl | rfl | hq | hq | hq
              · exact at4 p hp
              · exact Nat.ne_of_lt (l2 p (by simp [hp]))
              · exact apG p hp (l, PySem.W.listOf vals.toArray n) (by simp)
              · exact apG p hp (D, LCg.lst ys) (by simp)
              · exact apG p hp (L' + 1, o2) (by simp)
              · exact apG p hp q (by simp [hq])
              · exact apG p hp q (by simp [hq])
              · exact Ne.symm (ap5 q hq p (by simp [hp]))
            have hnd2 : ∀ p ∈ fled ++ foot5, p.1 ≠ L' + 1 + 1 := fun p hp => by
              rcases List.mem_append.mp hp with hp | hp
              · exact nd p hp
              · exact f5 p hp
            have hv2 : (fvals ++ tvals).length = doneF bs j := by
              have := hms2.length
              simp only [List.length_map, List.length_take] at this
              omega
            have hyl : ys.length = bs.length := by have := hD'.length; simpa using this
            generalize fvals ++ tvals = vals2 at N19 hms2 hap2 hv2
            generalize fled ++ foot5 = led2 at N19 hms2 hap2 hnd2
            (try clear N18); (try clear F18); (try clear hS); (try clear hml); (try clear o17); (try clear l2); (try clear apG); (try clear ap5); (try clear apF); (try clear hbF); (try clear dB); (try clear dF); (try clear nl); (try clear nd); (try clear at3); (try clear hra); (try clear htl); (try clear htd); (try clear f5); (try clear at4); (try clear hra1); (try clear htl1); (try clear hfl); (try clear htvl); (try clear hs1); (try clear hs2); (try clear hin5); (try clear hj); (try clear hk2); (try clear dO)
            refine wpAny_If (wpAny_isTrue_Compare1 ?_)
            walk1
            refine LCp.ListComp_P (F₀ := F19) (by with_unfolding_all rfl) (by decide) (by rfl) (by decide) (by rfl) (by rfl) (by decide) ?_
            k_steps
            unfold Halt
            with_reducible rename News _ _ _ _ => N20
            with_reducible rename Fr _ _ _ _ => F20
            dsimp only
            have hlD : Heap.IsList _ D ys.toArray := ⟨_, (N20 (D, LCg.lst ys) (by simp)).1, rfl, _, rfl⟩
            refine' kmk_slice_lit (s := ⟨_, _, _, _, _⟩) F20 N20 hlD ?sp ?sq (pick_upto _ ys2.length) ?_ ?ss ?st ?sz
            case sp => kmk_part
            case sq => kmk_part
            case ss => with_unfolding_all rfl
            case st => intro _; with_unfolding_all rfl
            case sz => exact Nat.le_trans (show ys.length ≤ 3 by omega) (by decide)
            intro D4 h20 F21 N21 l3
            rw [show ys.toArray.toList = ys from rfl] at N21
            k_steps
            unfold Halt
            with_reducible rename News _ _ _ _ => N22
            with_reducible rename Fr _ _ _ _ => F22
            have hsz4 : (ys.take ys2.length).toArray.size = doneF bs j := by
              simp only [List.size_toArray, List.length_take]
              omega
            obtain ⟨led4, hled4, N22⟩ : ∃ led4, led4 = _ ∧ News g L' _ led4 := ⟨_, rfl, N22⟩
            have hm4 : (D4, PySem.W.listOf (ys.take ys2.length).toArray 0) ∈ led4 := by rw [hled4]; simp
            have htm4 : ∀ p ∈ tups, p ∈ led4 := fun p hp => by rw [hled4]; simp [hp]
            refine LCp.SrcLP.ledger (ax := D4) (its := (ys.take ys2.length).toArray) (k := 0) (by rfl) F22 N22 hm4 (by rw [hsz4]; exact Nat.le_trans (show _ ≤ 3 by omega) (by decide)) fun g' => ?_
            rw [hsz4]
            refine compP_loop (fun i ys3 news => ∃ tl, news = tl ++ led4 ∧ DatAll tl ys3 (((bs.take i).map msgOf).map msgDat)) ⟨[], rfl, .nil⟩ ?pstep ?pfin
            case pstep =>
              intro i ys3 news hi hI v hv
              obtain ⟨tl, rfl, htl3⟩ := hI
              have hv' : ys[i]? = some v := by
                have : (ys.take ys2.length)[i]? = some v := by simpa using hv
                rw [List.getElem?_take] at this
                rw [if_pos (by omega)] at this
                exact this
              obtain ⟨x, t, t1, t2, nt, hx, rfl, hmt⟩ := body_at hD' hv'
              have hok := hok' x (List.mem_of_getElem? hx)
              have hx8 : x.2.length ≤ 8 := hok.2
              refine ⟨t, _, _, _, nt, rfl, List.mem_append_right _ (htm4 _ hmt), rfl, rfl, ?_⟩
              intro J oJ oC C D5 m₂ h23 tk23 E' hN hx1 hx2 F23 N23 off23 ne23
              clear N22 F22
              refine wpAny_abs fun R6 hR6 => ?_
              k_steps
              unfold Halt
              refine' ct_use0 (written_ct w x.1 _ x.2 _ hok.1 (by omega)) ?B ?F ?X ?N ?T ?hk ?hd ?hu ?_ (fun z => nomatch z)
              walk_at "mine use"
              intro r h24 tk24 foot24 F24 N24 ap24 hP
              obtain ⟨rfl, t24, rfl⟩ := hP
              dsimp only
              k_steps
              with_reducible rename News _ _ _ _ => N25
              with_reducible rename Fr _ _ _ _ => F25
              with_reducible rename ∀ p ∈ _ ++ _, _ => l25
              refine hR6 _ _ (LCg.CompEnd.intro F25 N25 (_ :: (tl ++ led4)) sub_p ⟨⟨Nat.ne_of_gt (l25 (J, oJ) (by simp)), Nat.ne_of_gt (l25 (C, oC) (by simp)), Nat.ne_of_gt (l25 (D5, LCg.lst ys3) (by simp))⟩, off23⟩ (.inr ⟨_, List.mem_cons_of_mem _ (List.mem_append_right _ hm4), rfl, 0, rfl⟩) ⟨_ :: tl, rfl, ?dat⟩)
              have em : msgDat (msgOf x) = .tuple [.int ((x.1 : Nat) : Int), .bytes x.2.toArray, .bytes (writtenOf x.1 x.2).toArray] := by
                simp only [msgDat, msgOf, toNat_ofNat hok.1]
                rfl
              rw [List.take_succ, hx, Option.toList_some, List.map_append, List.map_append, List.map_singleton, List.map_singleton, em]
              exact DatAll.append (htl3.mono fun p hp => List.mem_cons_of_mem _ hp) (.one (.tuple (vs := [_, _, _]) (List.mem_cons_self ..) (.cons (.int _ _) (.cons (.bytes _ _) (.cons (.bytes _ _) .nil)))))
            case pfin =>
              intro ys3 news hI D5 h26 tk26 F26 N26 o26
              obtain ⟨tl, rfl, htl3⟩ := hI
              dsimp only
              refine ne_lst (ds := ((bs.take (doneF bs j)).map msgOf).map msgDat) N26 (.list (vs := vals2) (n := 0) (List.mem_cons_of_mem _ (List.mem_append_right _ (by rw [hled4]; simp))) (hms2.mono fun p hp => List.mem_cons_of_mem _ (List.mem_append_right _ (by rw [hled4]; simp [hp])))) (.list (vs := ys3) (List.mem_cons_self ..) (htl3.mono fun p hp => List.mem_cons_of_mem _ (List.mem_append_left _ hp))) ?deep ?hu ?_
              case deep =>
                intro d hd
                simp only [List.map_map, List.mem_map] at hd
                obtain ⟨x, _, rfl⟩ := hd
                rfl
              case hu => dsimp only [ktrTop, Around.deeper, Around.in1] at *; omega
              have N27 : News g L' _ ((L' + 1 + 1, oN) :: (f2, PySem.W.listOf vals2.toArray 0) :: (l, PySem.W.listOf vals.toArray n) :: (D, LCg.lst ys) :: (L' + 1, o2) :: (tups ++ (led2 ++ ft2))) := fun p hp => N26 p (List.mem_cons_of_mem _ (List.mem_append_right _ (by rw [hled4]; exact List.mem_cons_of_mem _ hp)))
              clear N26 N22 hm4 htm4 hled4 o26 htl3 F22
              k_steps
              unfold Halt
              refine wpAny_If (wpAny_isTrue_Compare1 ?_)
              k_steps
              unfold Halt
              dsimp only
              with_reducible rename News _ _ _ _ => N28
              with_reducible rename Fr _ _ _ _ => F28
              have hl6 := (N28 _ (List.mem_cons_self ..)).1
              have hll := (N28 (l, PySem.W.listOf vals.toArray n) (by simp)).1
              refine' kmk_add_lit F28 N28 ⟨_, hl6, rfl, _, rfl⟩ ⟨_, hll, rfl, _, rfl⟩ (show _ = Value.int 0 _ :: vals from rfl) ?_ ?z6
              case z6 => exact Nat.le_trans (show 1 + vals.length ≤ 5 by have := hds.length; rw [List.length_map, endsF_length] at this; omega) (by decide)
              intro D7 h29 F29 N29 l7
              walk1
              dsimp only
              obtain ⟨t7, ht7⟩ := ends_get (t0 := tk26) hds (k := ys2.length) (by omega)
              have hl7 := (N29 _ (List.mem_cons_self ..)).1
              refine item_listR (items := (Value.int 0 tk26 :: vals).toArray) ⟨_, hl7, rfl, _, rfl⟩ (by omega) (by omega) (show _ = some _ by rw [Int.toNat_natCast]; simpa using ht7) ?_
              k_steps
              unfold Halt
              rw [hdn, cut_ab _ (Int.natCast_nonneg _) (Int.natCast_nonneg _), Int.toNat_natCast, Int.toNat_natCast, ← List.drop_take]
              refine ne_b ?_
              rw [bne_self_eq_false]
              k_steps
              with_reducible rename News _ _ _ _ => N30
              with_reducible rename Fr _ _ _ _ => F30
              refine hR5 .next _ (ksw_end ⟨j, tj, oN, u5, f2, vals2, 0, led2, ft2⟩ F30 N30 ?sub ⟨eN, hms2, hbG, hap2, hf2, hnd2⟩ ?ps ?rest hj2 ?mu)
              case sub =>
                intro p hp
                exact List.mem_cons_of_mem _ (List.mem_cons_of_mem _ hp)
              case ps =>
                intro p hp
                simp only [List.mem_cons, List.not_mem_nil, or_false] at hp
                rcases hp with rfl | rfl | rfl | rfl | rfl <;> rfl
              case rest =>
                intro z h2 h3
                have e1 : z ≠ Str.ofString "rest" := h2 (Str.ofString "rest", _) (List.mem_cons_self ..)
                have e2 : z ≠ Str.ofString "found" := h2 (Str.ofString "found", _) (List.mem_cons_of_mem _ (List.mem_cons_self ..))
                have e3 : z ≠ Str.ofString "whole" := h2 (Str.ofString "whole", _) (List.mem_cons_of_mem _ (List.mem_cons_of_mem _ (List.mem_cons_self ..)))
                have e4 : z ≠ Str.ofString "ends" := h2 (Str.ofString "ends", _) (List.mem_cons_of_mem _ (List.mem_cons_of_mem _ (List.mem_cons_of_mem _ (List.mem_cons_self ..))))
                have e5 : z ≠ Str.ofString "bodies" := h2 (Str.ofString "bodies", _) (List.mem_cons_of_mem _ (List.mem_cons_of_mem _ (List.mem_cons_of_mem _ (List.mem_cons_of_mem _ (List.mem_cons_self ..)))))
                simp only [List.contains_cons, List.contains_nil, Bool.or_false, Bool.or_eq_false_iff, beq_eq_false_iff_ne, ne_eq] at h3
                simp only [kstB, if_neg e1, if_neg e2, if_neg e3, if_neg e4, if_neg e5, if_neg h3.2.2]
                exact hmV z h3.1 h3.2.1 h3.2.2 e2 e1 e3 e4 e5
              case mu =>
                show (wholeOf bs).length - j < (wholeOf bs).length - at_
                omega
        · exact hQQ _ _ ⟨_, _, _, ft, rfl, F8, fun p hp => N8 p (by simp [hp]), rfl, hbF⟩
end
-- TC
section
/-! contracts of defs that catch, in clean contexts -/
noncomputable def CtCT (w : World) (D : Nat) (f : Addr) (foot need : Led) (vs : List Value) (Post : Value → Led → Prop) : Prop :=
  ∀ (p : Program) (loose : List PySem.Str) (mean : ExcName → Option Value) (mg mb : PySem.Str → Option Value) (dp un : Nat) (gd : Option (List Code)) (cn : PySem.Str) (cs : Scope) (a : Addr) (ccd : Value) (cl : List (PySem.Str × Addr)) (outer : List Env)
    (A₀ : Around) (base h₀ : Heap) (L : Addr) (m : PySem.Str → Option Value) (rest : Led) (s : Shared) (Q E : Value → Shared → Prop),
    Below A₀ base outer h₀ → Fr h₀ L s.heap m → (htop.heap_1 w.params).In base → News h₀ L s.heap (foot ++ rest) → Apart foot rest → (∀ q ∈ need, q ∈ rest) → Top p loose mean mg mb base → cs.kind = .function → dp + D < recursionLimit → un + 40 * D < cLine →
    (∀ r h' tk' foot' h₀', KtsTurn (framesOf outer) h₀ h₀' → Fr h₀' L h' m → News h₀' L h' (foot' ++ rest) → Apart foot' rest → Post r foot' → Q r { s with heap := h', toks := tk' }) →
    wpC (model PR w) (ktrTop dp un gd cn cs L a ccd cl outer) (call (.ref f) vs) Q E s

section
variable {w : World} {A₀ : Around} {base h₀ : Heap} {outer : List Env} {L f : Addr} {m : PySem.Str → Option Value} {s : Shared} {foot rest need : Led} {D : Nat} {vs : List Value}
  {name qual : PySem.Str} {params : Arguments} {body : List Stmt} {scope : Scope} {dV kV doc pm cdv ct oc : Value} {an od : Option Addr} {osl : Array (Option Value)} {binds : List (PySem.Str × Value)}
theorem ctct_defT {Post : Value → Led → Prop}
    (ho : (htop.heap_1 w.params).lookup f = some ⟨oc, od, .func (fnOf name qual params body scope dV kV doc pm an cdv ct), osl⟩)
    (hcd : codeIn (htop.heap_1 w.params) cdv qual = true)
    (hbind : bindArgs (fnOf name qual params body scope dV kV doc pm an cdv ct) ⟨vs, []⟩ = pure binds)
    (hkind : (binds.all fun y => scope.names.lookup y.1 == some .local || scope.names.lookup y.1 == some .cell) = true)
    (hnd : ((cellsFrom 0 scope.names []).map (·.1)).Nodup)
    (hb : ∀ (p : Program) (loose : List PySem.Str) (mean : ExcName → Option Value) (mg mb : PySem.Str → Option Value) (dp un : Nat) (gd : Option (List Code)) (cn : PySem.Str) (cs : Scope) (L a : Addr) (ccd : Value) (cl : List (PySem.Str × Addr)) (outer : List Env) (base g : Heap) (L' : Addr) (s₁ : Shared) (E : Value → Shared → Prop) (cells : Led),
      cs.kind = .function → CellStart g L' s₁.heap qual scope f cdv binds foot cells → Below (ktrTop dp un gd cn cs L a ccd cl outer) base (envX cn cs L a ccd cl :: outer) g → (htop.heap_1 w.params).In base → Top p loose mean mg mb base → (∀ q ∈ need, g.get? q.1 = some q.2) → dp + (D + 1) < recursionLimit → un + 40 * (D + 1) < cLine →
      wpC (model PR w) ((ktrTop dp un gd cn cs L a ccd cl outer).deeper (envOfC qual scope L' f cdv)) (execs body (envOfC qual scope L' f cdv)) (BackT (framesOf (envX cn cs L a ccd cl :: outer)) g L' s₁ Post) (fun _ _ => False) s₁)
    (hco : scope.isCoroutine = false := by rfl) (hgen : scope.isGenerator = false := by rfl) (hk : scope.kind = .function := by rfl) : CtCT w (D + 1) f foot need vs Post := by
  intro p loose mean mg mb dp un gd cn cs a ccd cl outer A₀ base h₀ L m rest s Q E B F X N ap hneed T hck hd hu hQ
  refine wpC_call ?_
  have G := lend (A := ktrTop dp un gd cn cs L a ccd cl outer) B F N ap rfl rfl hck
  have X₀ : (htop.heap_1 w.params).In h₀ := X.keeps B.stays
  have T₀ := T.keeps B.stays
  refine codeC_call_function (show dp < recursionLimit by omega) ((X₀.keeps F.keep) _ _ ho) rfl hco hgen rfl (codeRec_of (X₀.keeps F.keep) hcd) hbind ?_
  refine wpAny_newFunctionEnv_cells hk (kindsX hkind _) fun env' he s' x => ?_
  obtain ⟨h₁, tk, cells, rfl, hk₁, Z⟩ := cell_start (rest := rest) N hnd he x
  subst he
  refine ⟨(T₀.nolimit.keeps F.keep).keeps hk₁, codeC_func ?_⟩
  have restIn : ∀ q ∈ need, (groundOf s.heap foot).get? q.1 = some q.2 := fun q hq => hideAll_get _ (N q (List.mem_append_right _ (hneed q hq))).1 fun hm => by
    obtain ⟨p, hp, e⟩ := List.mem_map.mp hm
    exact ap p hp q (hneed q hq) e
  refine wpC_mono (hb p loose mean mg mb dp un gd cn cs L a ccd cl outer base (groundOf s.heap foot) s.heap.objs.size { s with heap := h₁, toks := tk } E cells hck Z G.below X T restIn hd hu) (fun fl s' hl => ?_) fun _ _ y => y.elim
  obtain ⟨g', h', tk', m', foot', T', rfl, F₂, N₂, hP⟩ := hl
  obtain ⟨h₀', T₁, F₃, N₃, ap₃⟩ := lend_backT B F N ap G rfl T' F₂.keep (fun q hq => ⟨(N₂ q hq).1, (N₂ q hq).2.2⟩)
  exact hQ _ h' tk' foot' h₀' T₁ F₃ N₃ ap₃ hP
end
end
-- FT
section
/-! a for over a tuple of the ledger, when the ground may turn; lambdas that are made again and again -/
section
variable {prog : Program} {w : World} {A : Around} {E : Value → Shared → Prop} {s : Shared} {L : Addr} {env : Env}
noncomputable abbrev tupObj (its : Array Value) (k : Nat) : Obj := { cls := .type "tuple", data := .seq its k }
theorem wpAny_ForTupT {target iter : PySem.Expr} {body : List Stmt} {pos : Pos} {n : Nat} (P : Nat → Value → Prop) (J : Nat → Heap → (PySem.Str → Option Value) → Led → Prop) {Q : Flow → Shared → Prop} (hh : A.handled = none)
    (hi : wpAny (model prog w) A (eval iter env) (fun v s₁ => ∃ t its k h tk g m nw, v = .ref t ∧ its.size = n ∧ (∀ i x, its[i]? = some x → P i x) ∧ s₁ = { s with heap := h, toks := tk } ∧ Fr g L h m ∧ News g L h ((t, tupObj its k) :: nw) ∧ J 0 g m nw) E s)
    (step : ∀ i v t its k I oI g m nw h tk (E' : Value → Shared → Prop), i < n → P i v → J i g m nw → (∀ p ∈ nw, @Ne Nat p.1 I) → @Ne Nat t I → Fr g L h m → News g L h ((I, oI) :: (t, tupObj its k) :: nw) →
      wpAny (model prog w) A (assign target env v) (fun _ s₂ => wpAny (model prog w) A (execs body env) (fun f s₃ => match f with
        | .next | .cont => ∃ g' h' tk' m' nw', s₃ = { s with heap := h', toks := tk' } ∧ Fr g' L h' m' ∧ News g' L h' ((I, oI) :: (t, tupObj its k) :: nw') ∧ (∀ p ∈ nw', @Ne Nat p.1 I) ∧ J (i + 1) g' m' nw'
        | .brk => False
        | .ret v => Q (.ret v) s₃) E' s₂) E' { s with heap := h, toks := tk })
    (fin : ∀ g m nw h tk, J n g m nw → Fr g L h m → News g L h nw → Q .next { s with heap := h, toks := tk })
    (hs : ∀ x, foldedSetIterable iter env x = pure x := by intro _; rfl) (hlet : ∀ it v, letOwnedTupleGo target it v = pure () := by intro _ _; rfl) :
    wpAny (model prog w) A (exec (.For target iter body [] pos) env) Q E s := by
  refine wpAny_For (wpAny_mono hi (fun xv s₁ h₁ => ?_) fun _ _ e => e) hs
  obtain ⟨t, its, k, h1, tk1, g, m, nw, rfl, hsz, hP, rfl, F, N, hJ⟩ := h₁
  have ht : h1.IsTuple t its := ⟨_, (N _ (List.mem_cons_self ..)).1, rfl, _, rfl⟩
  refine wpAny_pyIter_tuple ht ?_
  have upI : ∀ b o, h1.get? b = some o → (h1.push { cls := .type "tuple_iterator", data := .fields #[.ref t, .int 0 0] }).get? b = some o := fun b o e => Heap.get?_push_of_some _ e
  have atI : (h1.push { cls := .type "tuple_iterator", data := .fields #[.ref t, .int 0 0] }).get? h1.objs.size = some { cls := .type "tuple_iterator", data := .fields #[.ref t, .int 0 0] } := Heap.get?_push_size _ rfl
  have nI : g.get? h1.objs.size = none := next_is_new F
  have hLI : L ≠ h1.objs.size := Nat.ne_of_lt F.ns.lt
  have off : ∀ p ∈ (t, tupObj its k) :: nw, p.1 ≠ h1.objs.size := fun p hp => Nat.ne_of_lt (Heap.lt_size (N p hp).1)
  dsimp only
  generalize h1.objs.size = I at *
  refine codeAny_forLoop
    (fun kk s' => ∃ g' h' tk i m' nw oI, s' = { s with heap := h', toks := tk } ∧ i ≤ n ∧ kk = n + 1 - i ∧ h'.IsTupleIter I t i ∧ Fr g' L h' m' ∧ News g' L h' ((I, oI) :: (t, tupObj its k) :: nw) ∧ (∀ p ∈ nw, @Ne Nat p.1 I) ∧ J i g' m' nw) ?_ (n + 1)
    ⟨g, _, tk1, 0, m, nw, { cls := .type "tuple_iterator", data := .fields #[.ref t, .int 0 0] }, rfl, Nat.zero_le _, rfl, ⟨_, atI, rfl, rfl⟩, F.keeps upI, ?_, fun p hp => off p (List.mem_cons_of_mem _ hp), hJ⟩ (fun v => hlet _ v)
  · rintro kk s' ⟨g', h', tk, i, m', nw, oI, rfl, hi', rfl, hit, F', N', off', hJ⟩
    have ht' : h'.IsTuple t its := ⟨_, (N' _ (List.mem_cons_of_mem _ (List.mem_cons_self ..))).1, rfl, _, rfl⟩
    have htI : @Ne Nat t I := off (t, tupObj its k) (List.mem_cons_self ..)
    have nI' := (N' (I, oI) (List.mem_cons_self ..)).2.2
    have hIL : L ≠ I := Ne.symm (N' (I, oI) (List.mem_cons_self ..)).2.1
    by_cases hlt : i < n
    · have hlt' : i < its.size := by omega
      refine wpAny_pyNext_tuple_item hit ht' (x := its[i]) (by simp [hlt']) fun h₂ hit₂ hs₂ => ?_
      dsimp only
      obtain ⟨oI₂, heI, hoI⟩ := hit₂
      have F₂ : Fr g' L h₂ m' := F'.change hs₂ (Ne.symm hIL) nI'
      have N₂ : News g' L h₂ ((I, oI₂) :: (t, tupObj its k) :: nw) := fun p hp => by
        rcases List.mem_cons.mp hp with rfl | hp
        · exact ⟨heI, Ne.symm hIL, nI'⟩
        · refine ⟨hs₂.extBut _ _ ?_ (N' p (List.mem_cons_of_mem _ hp)).1, (N' p (List.mem_cons_of_mem _ hp)).2⟩
          rcases List.mem_cons.mp hp with rfl | hp
          · exact htI
          · exact off' p hp
      refine wpAny_mono (step i its[i] t its k I oI₂ g' m' nw h₂ _ _ hlt (hP _ _ (by simp [hlt'])) hJ off' htI F₂ N₂) (fun _ s₂ h₂' => wpAny_mono h₂' (fun f s₃ h₃ => ?_) fun _ _ x => x) fun _ _ x => x
      have go : (∃ g' h' tk' m' nw', s₃ = { s with heap := h', toks := tk' } ∧ Fr g' L h' m' ∧ News g' L h' ((I, oI₂) :: (t, tupObj its k) :: nw') ∧ (∀ p ∈ nw', @Ne Nat p.1 I) ∧ J (i + 1) g' m' nw') →
          ∃ m, m < n + 1 - i ∧ ∃ g' h' tk i m' nw oI, s₃ = { s with heap := h', toks := tk } ∧ i ≤ n ∧ m = n + 1 - i ∧ h'.IsTupleIter I t i ∧ Fr g' L h' m' ∧ News g' L h' ((I, oI) :: (t, tupObj its k) :: nw) ∧ (∀ p ∈ nw, @Ne Nat p.1 I) ∧ J i g' m' nw := by
        rintro ⟨g4, h4, tk4, m4, nw4, rfl, F4, N4, off4, hJ4⟩
        exact ⟨n + 1 - (i + 1), by omega, g4, h4, tk4, i + 1, m4, nw4, oI₂, rfl, hlt, rfl, ⟨oI₂, (N4 _ (List.mem_cons_self ..)).1, hoI⟩, F4, N4, off4, hJ4⟩
      cases f with
      | next => exact go h₃
      | cont => exact go h₃
      | brk => exact h₃.elim
      | ret v => exact h₃
    · obtain rfl : i = n := Nat.le_antisymm hi' (Nat.not_lt.mp hlt)
      refine wpAny_pyNext_tuple_end hh hit ht' (by simp [hsz]) fun h₂ he₂ => ?_
      dsimp only
      refine wpAny_execs_nil ?_
      refine fin g' m' nw h₂ _ hJ (LCg.fr_but F' (fun b o hb e => he₂ b o (by simpa using hb) e) hIL nI') fun p hp => ?_
      exact ⟨he₂ _ _ (off' p hp) (N' p (List.mem_cons_of_mem _ (List.mem_cons_of_mem _ hp))).1, (N' p (List.mem_cons_of_mem _ (List.mem_cons_of_mem _ hp))).2⟩
  · intro p hp
    rcases List.mem_cons.mp hp with rfl | hp
    · exact ⟨atI, Ne.symm hLI, nI⟩
    · exact ⟨upI _ _ (N p hp).1, (N p hp).2⟩
end

theorem triples_snoc {a b : Int} {t u : Tok} {c : Value} : ∀ (l : List Value), TriplesOk l → TriplesOk (l ++ [.int a t, .int b u, c])
  | [], _ => trivial
  | .int _ _ :: .int _ _ :: _ :: r, h => triples_snoc r h
theorem among_other {pos pos2 : Pos} {c : Value} (hp : pos2.line ≠ pos.line) : ∀ (l : List Value), TriplesOk l → codeAmong pos2 l = none → codeAmong pos2 (l ++ [rawInt pos.line, rawInt pos.col, c]) = none
  | [], _, _ => by
    show (if ((pos.line : Int) == pos2.line && (pos.col : Int) == pos2.col) = true then some c else none) = none
    rw [if_neg]
    simp only [Bool.and_eq_true, beq_iff_eq, not_and]
    intro h
    omega
  | .int a t :: .int b u :: v :: r, h, hn => by
    have e : ∀ l, codeAmong pos2 (.int a t :: .int b u :: v :: l) = if (a == pos2.line && b == pos2.col) = true then some v else codeAmong pos2 l := fun l => rfl
    show codeAmong pos2 (.int a t :: .int b u :: v :: (r ++ _)) = none
    rw [e] at hn ⊢
    split at hn
    · cases hn
    · next hc => rw [if_neg hc]; exact among_other hp r h hn
/-- the code of the lambda at that place: none as yet, or it stands in the ledger -/
noncomputable def LamAt (pos : Pos) (qual : PySem.Str) (ps : Array Value) (nw : Led) : Prop :=
  codeAmong pos ps.toList = none ∨ ∃ c' oc vs t, codeAmong pos ps.toList = some (.ref c') ∧ (c', oc) ∈ nw ∧ oc.data = .fields vs ∧ vs[1]? = some (.str qual t)
section
variable {M : Model} {A : Around} {E : Value → Shared → Prop} {s : Shared} {h₀ : Heap} {L a c P : Addr} {m mg mb : PySem.Str → Option Value} {cn : PySem.Str} {cs : Scope} {ccd : Value} {cl : List (PySem.Str × Addr)} {rest : Led}
  {p : Program} {loose : List PySem.Str} {mean : ExcName → Option Value} {name qual : PySem.Str} {params : Arguments} {body : PySem.Expr} {scope : Scope} {ps : Array Value} {pos : Pos} {firstLine : Nat} {clos : List (PySem.Str × Addr)}
theorem lam_made {Q : Value → Shared → Prop} (F : Fr h₀ L s.heap m) (N : News h₀ L s.heap ((P, tabObj ps) :: rest)) (hoff : ∀ q ∈ rest, q.1 ≠ P) (T : Top p loose mean mg mb h₀) (C : CodeHd h₀ c P) (hcd : ccd = .ref c) (ht : TriplesOk ps.toList) {junk : Led} (hj : ∀ q ∈ junk, q ∈ rest) (Z : LamAt pos qual ps junk)
    (hcl : closureFor scope (envX cn cs L a ccd cl) = pure clos)
    (h : ∀ f c' oc vs t ctv ps' add h' tk, Fr h₀ L h' m → News h₀ L h' ((P, tabObj ps') :: (add ++ rest)) → (f, kla_obj name qual params body scope clos ((mg "__name__").getD .none) c' ctv) ∈ add → (c', oc) ∈ add ++ junk →
      oc.data = .fields vs → vs[1]? = some (.str qual t) → TriplesOk ps'.toList → codeAmong pos ps'.toList = some (.ref c') → (∀ pos2 : Pos, pos2.line ≠ pos.line → codeAmong pos2 ps.toList = none → codeAmong pos2 ps'.toList = none) →
      (∀ q ∈ add, ∀ r ∈ (P, tabObj ps) :: rest, @LT.lt Nat _ r.1 q.1) → Q (.ref f) { s with heap := h', toks := tk }) :
    wpAny M A (makeFunction name qual params (.expr body) scope (envX cn cs L a ccd cl) [] [] [] pos firstLine) Q E s := by
  rcases Z with hn | ⟨c', oc, vs, t, hf, hm, hd, hv⟩
  · refine kla_nest F N T C hcd (UpdF.head hoff) ht hn hcl fun f c' oc vs t ctv h' tk F' N' hd hv l1 l2 => ?_
    refine h f c' oc vs t ctv (ps ++ #[rawInt pos.line, rawInt pos.col, .ref c']) [(f, _), (c', oc)] h' tk F' (fun q hq => N' q ?_) (List.mem_cons_self ..) (by simp) hd hv ?_ ?_ ?_ ?_
    · simp only [List.mem_cons, List.cons_append, List.nil_append] at hq ⊢
      rcases hq with hq | hq | hq | hq
      · exact .inr (.inr (.inl hq))
      · exact .inl hq
      · exact .inr (.inl hq)
      · exact .inr (.inr (.inr hq))
    · simp only [Array.toList_append]
      exact triples_snoc _ ht
    · simp only [Array.toList_append]
      exact codeAmong_snoc _ ht hn
    · intro pos2 h2 h3
      simp only [Array.toList_append]
      exact among_other h2 _ ht h3
    · intro q hq r hr
      simp only [List.mem_cons, List.not_mem_nil, or_false] at hq
      rcases hq with rfl | rfl
      · exact Nat.lt_trans (l1 r hr) l2
      · exact l1 r hr
  · refine kla_hit F N T C hcd (List.mem_cons_self ..) ht hf hcl fun f ctv h' tk F' N' l1 => ?_
    refine h f c' oc vs t ctv ps [(f, _)] h' tk F' (fun q hq => N' q ?_) (List.mem_cons_self ..) (List.mem_append_right _ hm) hd hv ht hf (fun _ _ z => z) ?_
    · simp only [List.mem_cons, List.cons_append, List.nil_append] at hq ⊢
      rcases hq with hq | hq | hq
      · exact .inr (.inl hq)
      · exact .inl hq
      · exact .inr (.inr hq)
    · intro q hq r hr
      rw [List.mem_singleton.mp hq]
      exact l1 r hr
end
end
-- HE
section
local macro_rules | `(tactic| walk_at "call ref") => `(tactic| ((with_reducible show wpAny _ _ (call (Value.ref _) _) _ _ _); refine Halt.go ?_))
local macro_rules | `(tactic| walk_at "CompSrc") => `(tactic| (refine Halt.go ?_))
local macro_rules | `(tactic| walk_at "Exists") => `(tactic| (refine Halt.go ?_))
local macro_rules | `(tactic| walk_at "eval Lambda") => `(tactic| (refine Halt.go ?_))
local macro_rules | `(tactic| walk_at "exec For Name Tuple cons nil") => `(tactic| (refine Halt.go ?_))
local macro_rules | `(tactic| walk_at "compareOp NotEq ref ref") => `(tactic| (refine Halt.go ?_))
local macro_rules | `(tactic| walk_at "compareOp Eq ref ref") => `(tactic| (refine Halt.go ?_))
local macro_rules | `(tactic| walk_at "compareOp NotEq bytes bytes") => `(tactic| (refine Halt.go ?_))
theorem ctc_useF {w : World} {D : Nat} {f : Addr} {vs : List Value} {Post : Value → Led → Prop} {foot rest : Led} (C : CtC w D f foot vs Post) {p : Program} {loose : List PySem.Str} {mean : ExcName → Option Value} {mg mb : PySem.Str → Option Value} {dp un : Nat} {gd : Option (List Code)} {cn : PySem.Str} {cs : Scope} {a : Addr} {ccd : Value} {cl : List (PySem.Str × Addr)} {outer : List Env}
    {A₀ : Around} {base h₀ : Heap} {L : Addr} {m : PySem.Str → Option Value} {news : Led} {s : Shared} {Q E : Value → Shared → Prop}
    (sub : ∀ p ∈ foot ++ rest, p ∈ news) (ap : Apart foot rest)
    (B : Below A₀ base outer h₀) (F : Fr h₀ L s.heap m) (X : (htop.heap_1 w.params).In h₀) (N : News h₀ L s.heap news) (T : Top p loose mean mg mb h₀) (hk : cs.kind = .function) (hd : dp + D < recursionLimit) (hu : un + 40 * D < cLine)
    (h : ∀ r h' tk' foot', Fr h₀ L h' m → News h₀ L h' (foot' ++ rest) → Apart foot' rest → Post r foot' → Q r { s with heap := h', toks := tk' }) :
    wpC (model PR w) (ktrTop dp un gd cn cs L a ccd cl outer) (call (.ref f) vs) Q E s :=
  C p loose mean mg mb dp un gd cn cs a ccd cl outer A₀ base h₀ L m rest s Q E B F X (fun p hp => N p (sub p hp)) ap T hk hd hu h
theorem hel_names {g h : Heap} {L DS : Addr} {m : PySem.Str → Option Value} {hb rb pb : Array UInt8} {t1 t3 : Tok} (F : Fr g L h m) (h0 : ∃ tb, m (Str.ofString "body") = some (.bytes hb tb)) (h1 : m (Str.ofString "random") = some (.bytes rb t1)) (h2 : m (Str.ofString "params") = some (.bytes pb t3)) (h3 : m (Str.ofString "spoken") = some (.ref DS)) :
    ∃ (tb : Tok) (mB : PySem.Str → Option Value), Fr g L h (kstB mB [(Str.ofString "body", .bytes hb tb), (Str.ofString "random", .bytes rb t1), (Str.ofString "params", .bytes pb t3), (Str.ofString "spoken", .ref DS)]) := by
  obtain ⟨tb, h0⟩ := h0
  refine ⟨tb, m, fr_known (fun p hp => ?_) F⟩
  simp only [List.mem_cons, List.not_mem_nil, or_false] at hp
  rcases hp with rfl | rfl | rfl | rfl
  · exact h0
  · exact h1
  · exact h2
  · exact h3
theorem dat_vals {nw : Led} : ∀ (ls : List (List UInt8 × Tok)), DatAll nw (bytesVals ls) ((ls.map (·.1)).map fieldDat)
  | [] => .nil
  | p :: ls => .cons (.bytes _ _) (dat_vals ls)
noncomputable abbrev pos148 : Pos := { line := 148, col := 21, endLine := 148, endCol := 52 }
noncomputable abbrev pos151 : Pos := { line := 151, col := 21, endLine := 151, endCol := 52 }
noncomputable abbrev helQual : PySem.Str := Str.ofString "_law_hellos_right" ++ ".<locals>." ++ "<lambda>"
/-- between the turns of the loops over bent bodies -/
structure HelJ (fs : List Addr) (g : Heap) (L' : Addr) (o2 : Obj) (foot' : Led) (hv rv pv : Value) (pos : Pos) (Pn : Array Value → Prop) (g' : Heap) (m : PySem.Str → Option Value) (nw : Led) (ps : Array Value) (junk : Led) (oB : Obj) (cv : Option Value) : Prop where
  led : nw = (190, tabObj ps) :: (L' + 1 + 1, oB) :: (L' + 1, o2) :: (junk ++ foot')
  turn : KtsTurn fs g g'
  mb : m (Str.ofString "body") = some hv
  mr : m (Str.ofString "random") = some rv
  mp : m (Str.ofString "params") = some pv
  ok : TriplesOk ps.toList
  lam : LamAt pos helQual ps junk
  j190 : ∀ q ∈ junk, @Ne Nat q.1 190
  jb : ∀ q ∈ junk, @Ne Nat q.1 (L' + 1 + 1)
  cell : oB.data = .cell cv
  pn : Pn ps
theorem LamAt.mono {pos : Pos} {qual : PySem.Str} {ps : Array Value} {a b : Led} (h : LamAt pos qual ps a) (hs : ∀ q ∈ a, q ∈ b) : LamAt pos qual ps b := by
  rcases h with h | ⟨c', oc, vs, t, h1, h2, h3⟩
  · exact .inl h
  · exact .inr ⟨c', oc, vs, t, h1, hs _ h2, h3⟩
theorem sub_h {α : Type} {a b c d e : α} {j f : List α} : ∀ p ∈ c :: a :: b :: d :: e :: (j ++ f), p ∈ a :: b :: c :: d :: e :: (j ++ f) := by
  intro p hp
  grind
theorem sub_h2 {α : Type} {a b c d e : α} {j f k : List α} : ∀ p ∈ a :: b :: c :: d :: e :: ((k ++ j) ++ f), p ∈ c :: (k ++ (a :: b :: d :: e :: (j ++ f))) := by
  intro p hp
  grind
theorem sub_i {α : Type} {a b c d T : α} {f : List α} : ∀ p ∈ T :: c :: a :: b :: ([d] ++ f), p ∈ T :: d :: a :: b :: c :: f := by
  intro p hp
  grind
theorem sub_e {α : Type} {a b c : α} {j f : List α} : ∀ p ∈ f ++ [a], p ∈ a :: b :: c :: (j ++ f) := by
  intro p hp
  grind
theorem written_drop (k : Nat) (d : List UInt8) : cutOf (writtenOf k d) (some 4) none = d := by
  rw [cut_a _ (by decide)]
  simp [writtenOf, be3]
set_option maxHeartbeats 8000000 in
theorem hellos_ct (w : World) (b : Addr) (foot : Led) (hb : IsBox b foot) (h190 : ∀ p ∈ foot, p.1 ≠ 190) :
    CtCT w 12 193 (foot ++ [(190, tabObj #[])]) [] [.ref b] (fun r foot' => r = .bool true ∧ ∃ foot2 ps, foot' = foot2 ++ [(190, tabObj ps)] ∧ IsBox b foot2) := by
  refine' ctct_defT (binds := [("box", .ref b)]) ?ho ?hcd ?hbind ?hkind ?hnd ?_ ?hco ?hgen ?hk
  case ho => k_dflt k_is
  case hcd => k_dflt k_is
  case hbind => with_unfolding_all rfl
  case hkind => rfl
  case hnd => decide
  case hco => rfl
  case hgen => rfl
  case hk => rfl
  intro p loose mean mg mb dp un gd cn cs L a ccd cl outer base g L' s₁ E cells hck Z B' XB TB hneed hd hu
  have X' := XB.keeps B'.stays
  have T' := TB.keeps B'.stays
  have hcode := codeHd192 X'
  obtain ⟨F', N', are, low⟩ := Z
  obtain ⟨o1, o2, rfl, c1, c2⟩ := CellsAre.two (n := "bent") (n' := "box") are
  clear are
  have c1' : o1.data = .cell none := c1
  have c2' : o2.data = .cell (some (.ref b)) := c2
  clear c1 c2
  have hlow : ∀ p ∈ foot, p.1 < L' := fun p hp => low p (List.mem_append_left _ hp)
  have h190L : @LT.lt Nat _ 190 L' := low (190, tabObj #[]) (by simp)
  have apA : ApartA foot [L' + 1 + 1, L' + 1, 190] := fun p hp a ha => by
    simp only [List.mem_cons, List.not_mem_nil, or_false] at ha
    rcases ha with rfl | rfl | rfl
    · exact Nat.ne_of_lt (Nat.lt_succ_of_lt (Nat.lt_succ_of_lt (hlow p hp)))
    · exact Nat.ne_of_lt (Nat.lt_succ_of_lt (hlow p hp))
    · exact h190 p hp
  have N1 : News g L' s₁.heap ((L' + 1 + 1, o1) :: (L' + 1, o2) :: (190, tabObj #[]) :: foot) := fun p hp => N' p (by grind)
  clear N' low
  rw [show envOfC (Str.ofString "_law_hellos_right") _ L' 193 (Value.ref 192) = envX _ _ _ _ _ [(Str.ofString "bent", L' + 1 + 1), (Str.ofString "box", L' + 1)] from rfl]
  refine (?_ : let env_ := envX (Str.ofString "_law_hellos_right") _ L' 193 (Value.ref 192) [(Str.ofString "bent", L' + 1 + 1), (Str.ofString "box", L' + 1)]; let A_ := (ktrTop dp un gd cn cs L a ccd cl outer).deeper env_; wpC (model PR w) A_ (execs _ env_) _ _ _)
  intro env_ A_
  refine wpC_abs fun QQ hQQ => ?_
  refine wpC_execs_abs fun R1 hR1 => wpC_of ?_
  k_steps
  unfold Halt
  refine wpAny_abs fun Q1 hQ1 => ?_
  refine' ct_useF (rest := [(L' + 1 + 1, o1), (L' + 1, o2), (190, tabObj #[])]) (octets_ct w b foot hb 8 _ (by decide)) ?sub ?ap ?B ?F ?X ?N ?T ?hk ?hd ?hu ?_
  case sub => exact sub_swap
  case ap => exact apA.to rfl
  walk_at "mine use"
  intro r h1 tk1 foot1 F1 N2 ap1 hP
  obtain ⟨hb1, rnd, t1, hrnd, rfl⟩ := hP
  refine hQ1 _ _ ?_
  clear N1 hb apA
  dsimp only
  k_steps
  unfold Halt
  refine wpAny_abs fun Q1 hQ1 => ?_
  refine' ct_useF (rest := [(L' + 1 + 1, o1), (L' + 1, o2), (190, tabObj #[])]) (take_ct w b foot1 hb1 6 _ (by decide)) ?sub ?ap ?B ?F ?X ?N ?T ?hk ?hd ?hu ?_
  case sub => exact fun p hp => hp
  case ap => exact ap1
  walk_at "mine use"
  intro r h2 tk2 foot2 F2 N3 ap2 hP
  obtain ⟨hb2, k2, t2, hk2, rfl⟩ := hP
  refine hQ1 _ _ ?_
  k_steps
  unfold Halt
  refine wpAny_abs fun Q1 hQ1 => ?_
  refine' ct_useF (rest := [(L' + 1 + 1, o1), (L' + 1, o2), (190, tabObj #[])]) (octets_ct w b foot2 hb2 k2 _ (by omega)) ?sub ?ap ?B ?F ?X ?N ?T ?hk ?hd ?hu ?_
  case sub => exact fun p hp => hp
  case ap => exact ap2
  walk_at "mine use"
  intro r h3 tk3 foot3 F3 N4 ap3 hP
  obtain ⟨hb3, par, t3, hpar, rfl⟩ := hP
  refine hQ1 _ _ ?_
  k_steps
  refine hR1 _ _ ?_
  dsimp only
  with_reducible rename News _ _ _ _ => N5
  with_reducible rename Fr _ _ _ _ => F5
  replace N5 : News g L' _ ((L' + 1 + 1, o1) :: (L' + 1, o2) :: (190, tabObj #[]) :: foot3) := fun p hp => N5 p (List.mem_cons_of_mem _ (by grind))
  refine wpC_execs_abs fun R2 hR2 => wpC_of ?_
  refine LCg.Assign_ListComp_U (F₀ := F5) (by rfl) (by with_unfolding_all rfl) (by with_unfolding_all rfl) (by decide) (by rfl) (by decide) (by rfl) (by rfl) (by rfl) ?_
  k_steps
  unfold Halt
  have apB := ApartA.of ap3 rfl
  refine wpAny_abs fun Q1 hQ1 => ?_
  refine' ct_useF (rest := [(L' + 1 + 1, o1), (L' + 1, o2), (190, tabObj #[])]) (take_ct w b foot3 hb3 3 _ (by decide)) ?sub ?ap ?B ?F ?X ?N ?T ?hk ?hd ?hu ?_
  case sub => exact sub_swap
  case ap => exact ap3
  walk_at "mine use"
  intro r h4 tk4 foot4 F6 N6 ap4 hP
  obtain ⟨hb4, k4, t4, hk4, rfl⟩ := hP
  refine hQ1 _ _ ?_
  replace N6 := news_swap N6
  simp only [List.cons_append, List.nil_append] at N6
  dsimp only
  k_steps
  unfold Halt
  refine LCg.CompSrc.range (n := k4) (by rfl) (by assumption) (by assumption) (by assumption) (range_small (by omega)) (range_size _) (Nat.le_trans (show k4 ≤ 10 by omega) (by decide)) fun g' => ?_
  refine comp_loop (fun i ys news => ∃ (foot' : Led) (ls : List (List UInt8 × Tok)), news = (L' + 1 + 1, o1) :: (L' + 1, o2) :: (190, tabObj #[]) :: foot' ∧ IsBox b foot' ∧ Apart foot' [(L' + 1 + 1, o1), (L' + 1, o2), (190, tabObj #[])] ∧ ys = bytesVals ls ∧ ls.length = i ∧ ∀ q ∈ ls, q.1.length ≤ 4)
    ⟨foot4, [], rfl, hb4, ap4, rfl, rfl, fun _ z => nomatch z⟩ ?step ?fin
  case step =>
    intro i ys news hi hI v J oJ oC C D m₂ h tk E' hP hN hx F2 N3 off ne
    obtain ⟨foot', ls, rfl, hb', ap', rfl, hlen', hok'⟩ := hI
    have off2 := LCg.Off3.mem off
    have apR : Apart foot' [(J, oJ), (C, oC), (D, LCg.lst (bytesVals ls)), (L' + 1 + 1, o1), (L' + 1, o2), (190, tabObj #[])] := fun p hp q hq => by
      have z := off2 p (by simp [hp])
      simp only [List.mem_cons, List.not_mem_nil, or_false] at hq
      rcases hq with rfl | rfl | rfl | hq
      · exact z.1
      · exact z.2.1
      · exact z.2.2
      · exact ap' p hp q (by simpa using hq)
    k_steps
    unfold Halt
    refine wpAny_abs fun Q1 hQ1 => ?_
    refine' ct_useF (rest := [(J, oJ), (C, oC), (D, LCg.lst (bytesVals ls)), (L' + 1 + 1, o1), (L' + 1, o2), (190, tabObj #[])]) (take_ct w b foot' hb' 4 _ (by decide)) ?sub ?ap ?B ?F ?X ?N ?T ?hk ?hd ?hu ?_
    case sub => exact sub_swap
    case ap => exact apR
    walk_at "mine use"
    intro r h5 tk5 foot5 F7 N7 ap5 hP
    obtain ⟨hb5, k5, t5, hk5, rfl⟩ := hP
    refine hQ1 _ _ ?_
    k_steps
    unfold Halt
    refine wpAny_abs fun Q1 hQ1 => ?_
    refine' ct_useF (rest := [(J, oJ), (C, oC), (D, LCg.lst (bytesVals ls)), (L' + 1 + 1, o1), (L' + 1, o2), (190, tabObj #[])]) (octets_ct w b foot5 hb5 k5 _ (by omega)) ?sub ?ap ?B ?F ?X ?N ?T ?hk ?hd ?hu ?_
    case sub => exact fun p hp => hp
    case ap => exact ap5
    walk_at "mine use"
    intro r h6 tk6 foot6 F8 N8 ap6 hP
    obtain ⟨hb6, one, t6, hone, rfl⟩ := hP
    refine hQ1 _ _ ?_
    have off3 : LCg.Off3 J C D ((L' + 1 + 1, o1) :: (L' + 1, o2) :: (190, tabObj #[]) :: foot6) := LCg.Off3.of fun p hp => by
      simp only [List.mem_cons] at hp
      rcases hp with rfl | rfl | rfl | hp
      · exact off2 _ (by simp)
      · exact off2 _ (by simp)
      · exact off2 _ (by simp)
      · exact ⟨ap6 p hp (J, oJ) (by simp), ap6 p hp (C, oC) (by simp), ap6 p hp (D, LCg.lst (bytesVals ls)) (by simp)⟩
    refine LCg.CompEnd.intro F8 N8 ((L' + 1 + 1, o1) :: (L' + 1, o2) :: (190, tabObj #[]) :: foot6) (fun p hp => sub_swap (f := [(J, oJ), (C, oC), (D, LCg.lst (bytesVals ls)), (L' + 1 + 1, o1), (L' + 1, o2), (190, tabObj #[])]) p hp) off3 trivial ⟨foot6, ls ++ [(one, t6)], rfl, hb6, fun p hp q hq => ap6 p hp q (by simp at hq ⊢; grind), ?bv, by simp [hlen'], ?ok⟩
    case bv => simp [bytesVals]
    case ok =>
      intro q hq
      rcases List.mem_append.mp hq with hq | hq
      · exact hok' q hq
      · rw [List.mem_singleton.mp hq]
        show one.length ≤ 4
        omega
  case fin =>
    intro ys news hI
    obtain ⟨foot', ls, rfl, hb', ap', rfl, hlen', hok'⟩ := hI
    intro DS h tk F9 N9 off
    refine hR2 _ _ ?_
    dsimp only
    have F10 := fr_known (ps := [(Str.ofString "random", .bytes rnd.toArray t1), (Str.ofString "params", .bytes par.toArray t3), (Str.ofString "spoken", .ref DS)]) (fun p hp => by
      simp only [List.mem_cons, List.not_mem_nil, or_false] at hp
      rcases hp with rfl | rfl | rfl <;> rfl) F9
    clear F9
    have hok2 : ∀ q ∈ ls, q.1.length ≤ 1000 := fun q hq => Nat.le_trans (hok' q hq) (by decide)
    have off1 := off1_ne off
    have apS : Apart [(DS, PySem.W.listOf (bytesVals ls).toArray (bytesVals ls).length)] ((L' + 1 + 1, o1) :: (L' + 1, o2) :: (190, tabObj #[]) :: foot') := fun p hp q hq => by
      rw [List.mem_singleton.mp hp]
      exact Ne.symm (off1 q hq)
    refine wpC_execs_abs fun R3 hR3 => wpC_Assign (wpC_Subscript (wpC_Call ?_))
    walk1
    refine wpC_callWith (K := htop.heap_1 w.params) (by k_dflt k_is) (wpC_args_cons (wpC_of ?_))
    walk1
    refine wpC_args_cons (wpC_of ?_)
    walk1
    refine wpC_args_cons (wpC_of ?_)
    walk1
    refine wpC_args_nil ⟨by k_in, ?_⟩
    refine wpC_absE fun Q1 hQ1 => ?_
    refine' ctc_useF (rest := (L' + 1 + 1, o1) :: (L' + 1, o2) :: (190, tabObj #[]) :: foot') (client_ct w rnd par _ _ DS ls (bytesVals ls).length (by omega) (by omega) (by omega) hok2) ?sub ?ap ?B ?F ?X ?N ?T ?hk ?hd ?hu ?_
    case sub => exact fun p hp => hp
    case ap => exact apS
    walk_at "mine use"
    intro r h11 tk11 foot11 F11 N11 ap11 hP
    obtain ⟨rfl, t11, rfl⟩ := hP
    refine hQ1 _ _ ?_
    have hfl := flat_le ls hok2
    obtain ⟨sp, hsp⟩ : ∃ sp, sp = (ls.map fun p => fieldOf p.1).flatten := ⟨_, rfl⟩
    rw [← hsp] at hfl ⊢
    dsimp only
    k_steps
    with_reducible rename Fr _ _ _ _ => F12
    with_reducible rename News _ _ _ _ => N12
    rw [written_drop, show fieldOf rnd ++ fieldOf sp ++ fieldOf par = helloOf rnd sp par from rfl] at F12
    refine hR3 _ _ ?_
    dsimp only
    obtain ⟨tb, mB, F13⟩ := hel_names (hb := (helloOf rnd sp par).toArray) F12 ⟨_, rfl⟩ rfl rfl rfl
    have N13 : News g L' _ ((DS, LCg.lst (bytesVals ls)) :: (L' + 1 + 1, o1) :: (L' + 1, o2) :: (190, tabObj #[]) :: foot') := N12
    clear N12 F12
    have hhl : (helloOf rnd sp par).length ≤ 4000 := by
      rw [helloOf, List.length_append, List.length_append, fieldOf_length, fieldOf_length, fieldOf_length]
      omega
    refine wpC_execs_abs fun R4 hR4 => wpC_If (wpC_isTrue_Compare1 (wpC_of ?_))
    walk1
    refine wpC_BinOp (wpC_BinOp (wpC_of ?_))
    k_steps
    unfold Halt
    refine wpAny_abs fun Q1 hQ1 => ?_
    refine' ct_use0 (field_ct w rnd _ (by omega)) ?B ?F ?X ?N ?T ?hk ?hd ?hu ?_ (fun z => nomatch z)
    walk_at "mine use"
    intro r h14 tk14 foot14 F14 N14 ap14 hP
    obtain ⟨rfl, t14, rfl⟩ := hP
    refine hQ1 _ _ ?_
    simp only [List.nil_append] at N14
    dsimp only
    refine wpC_Call ?_
    walk1
    refine wpC_callWith (K := htop.heap_1 w.params) (by k_dflt k_is) (wpC_args_cons (wpC_methodCall ?_))
    walk1
    refine method_join ?_
    refine wpC_callWith_builtin (wpC_args_cons ?_)
    refine wpC_ListComp (h₀ := g) (L := L') (ax := DS) (its := (bytesVals ls).toArray) (k := (bytesVals ls).length) (news := (DS, LCg.lst (bytesVals ls)) :: (L' + 1 + 1, o1) :: (L' + 1, o2) :: (190, tabObj #[]) :: foot') (fun i y => ∃ t', y = .bytes (fieldOf (ls.getD i ([], 0)).1).toArray t') F14 rfl (by rfl) (by decide) (by rfl) (by decide) (by rfl) (by simp [bytesVals]; omega) ?hi4 ?step4 ?fin4
    case hi4 =>
      walk1
      exact ⟨rfl, ⟨_, _, rfl⟩, F14, N14, List.mem_cons_self ..⟩
    case step4 =>
      intro i v J oJ oC C D ys m₂ h tk hi hN hx F1 N1 off ne
      obtain ⟨q, hq, rfl⟩ : ∃ q, ls[i]? = some q ∧ v = .bytes q.1.toArray q.2 := by
        simp [bytesVals] at hi
        obtain ⟨a, b, h1, rfl⟩ := hi
        exact ⟨(a, b), h1, rfl⟩
      have hmem : q ∈ ls := List.mem_of_getElem? hq
      have hq' : ls.getD i ([], 0) = q := by simp [List.getD_eq_getElem?_getD, hq]
      rw [hq']
      have hq2 := hok2 q hmem
      refine wpC_of ?_
      k_steps
      unfold Halt
      refine wpAny_abs fun Q1 hQ1 => ?_
      refine' ct_use0 (field_ct w q.1 _ (by omega)) ?B ?F ?X ?N ?T ?hk ?hd ?hu ?_ (fun z => nomatch z)
      walk_at "mine use"
      intro r h' tk' foot9 F2 N2 ap2 hP
      obtain ⟨rfl, t', rfl⟩ := hP
      refine hQ1 _ _ ?_
      exact ⟨⟨_, rfl⟩, h', tk', rfl, F2, by simpa using N2⟩
    case fin4 =>
      intro D ys h tk hlen hG F15 N15
      obtain ⟨ts, hts, rfl⟩ : ∃ ts : List Tok, ts.length = ls.length ∧ ys = bytesVals (List.zipWith (fun p t => (fieldOf p.1, t)) ls ts) := fields_vals ls ys (by simpa [bytesVals] using hlen) hG
      have hz := zip_fields ls ts hts
      refine wpC_args_nil ?_
      refine wpC_of (join_b (N15 (D, _) (List.mem_cons_self ..)).1 (by rw [hz, ← hsp]; omega) (by simp; omega) fun t16 tk16 => ?_)
      rw [hz, ← hsp]
      replace N15 : News g L' h ((DS, LCg.lst (bytesVals ls)) :: (L' + 1 + 1, o1) :: (L' + 1, o2) :: (190, tabObj #[]) :: foot') := fun p hp => N15 p (List.mem_cons_of_mem _ hp)
      refine wpC_args_nil ⟨by k_in, ?_⟩
      refine wpC_of ?_
      refine wpAny_abs fun Q1 hQ1 => ?_
      refine' ct_use0 (field_ct w sp _ (by omega)) ?B ?F ?X ?N ?T ?hk ?hd ?hu ?_ (fun z => nomatch z)
      walk_at "mine use"
      intro r h17 tk17 foot17 F17 N17 ap17 hP
      obtain ⟨rfl, t17, rfl⟩ := hP
      refine hQ1 _ _ ?_
      simp only [List.nil_append] at N17
      refine wpC_of (add_b (by rw [fieldOf_length, fieldOf_length]; omega) fun t18 k18 => ?_)
      refine wpC_of ?_
      k_steps
      unfold Halt
      refine wpAny_abs fun Q1 hQ1 => ?_
      refine' ct_use0 (field_ct w par _ (by omega)) ?B ?F ?X ?N ?T ?hk ?hd ?hu ?_ (fun z => nomatch z)
      walk_at "mine use"
      intro r h19 tk19 foot19 F19 N19 ap19 hP
      obtain ⟨rfl, t19, rfl⟩ := hP
      refine hQ1 _ _ ?_
      simp only [List.nil_append] at N19
      refine wpC_of (add_b (by rw [List.length_append, fieldOf_length, fieldOf_length, fieldOf_length]; omega) fun t20 k20 => ?_)
      dsimp only
      rw [show fieldOf rnd ++ fieldOf sp ++ fieldOf par = helloOf rnd sp par from rfl]
      refine wpC_of (ne_b ?_)
      rw [bne_self_eq_false]
      refine wpC_of ?_
      walk1
      simp only [Bool.false_eq_true, if_false]
      refine wpC_of (wpAny_execs_nil ?_)
      refine hR4 _ _ ?_
      dsimp only
      have hrch : rchF (helloOf rnd sp par) = some (rnd, ls.map (·.1), par) := by
        have e : sp = ((ls.map (·.1)).map fieldOf).flatten := by rw [hsp, List.map_map]; rfl
        rw [e]
        refine rch_hello hrnd ?_ (fun d hd => ?_) (by omega)
        · rw [← e]; omega
        · obtain ⟨q, hq, rfl⟩ := List.mem_map.mp hd
          have := hok2 q hq
          omega
      refine wpC_execs_abs fun R5 hR5 => wpC_If (wpC_isTrue_or (wpC_of ?_))
      k_steps
      unfold Halt
      refine wpAny_abs fun Q1 hQ1 => ?_
      refine' ct_use0 (read_client_ct w (helloOf rnd sp par) _ (by omega)) ?B ?F ?X ?N ?T ?hk ?hd ?hu ?_ (fun z => by rw [hrch] at z; cases z)
      walk_at "mine use"
      intro r h21 tk21 foot21 F21 N21 ap21 hP
      obtain ⟨x, l, p', q, hin⟩ := hP
      refine hQ1 _ _ ?_
      rw [hrch] at q
      cases q
      obtain ⟨ra, rfl⟩ := datIn_tup hin
      dsimp only
      k_steps
      unfold Halt
      with_reducible rename News _ _ _ _ => N22
      refine ne_tup N22 (hin.mono fun p hp => List.mem_cons_of_mem _ (List.mem_append_left _ hp)) (DatIn.tuple (vs := [_, _, _]) (List.mem_cons_self ..) (.cons (.bytes _ _) (.cons (.list (vs := bytesVals ls) (n := (bytesVals ls).length) (List.mem_cons_of_mem _ (List.mem_append_right _ (List.mem_cons_self ..))) (dat_vals ls)) (.cons (.bytes _ _) .nil)))) ?deep ?hu ?_
      case deep =>
        intro d hd
        simp only [List.mem_cons, List.not_mem_nil, or_false] at hd
        rcases hd with rfl | rfl | rfl <;> simp [datDeep, fieldDat]
      case hu => (try simp only [A_]); dsimp only [ktrTop, Around.deeper, Around.in1] at *; omega
      replace N22 : News g L' _ ((DS, LCg.lst (bytesVals ls)) :: (L' + 1 + 1, o1) :: (L' + 1, o2) :: (190, tabObj #[]) :: foot') := fun p hp => N22 p (List.mem_cons_of_mem _ (List.mem_append_right _ hp))
      dsimp only
      k_steps
      refine wpC_isTrue_or (wpC_isTrue_Compare1 (wpC_Call ?_))
      walk1
      refine wpC_callWith (K := htop.heap_1 w.params) (by k_dflt k_is) (wpC_args_cons (wpC_Subscript (wpC_Call ?_)))
      walk1
      refine wpC_callWith (K := htop.heap_1 w.params) (by k_dflt k_is) (wpC_args_cons (wpC_of ?_))
      walk1
      refine wpC_args_nil ⟨by k_in, ?_⟩
      refine wpC_absE fun Q1 hQ1 => ?_
      refine' ctc_use0 (server_ct w rnd _ (by omega)) ?B ?F ?X ?N ?T ?hk ?hd ?hu ?_
      walk_at "mine use"
      intro r h23 tk23 foot23 F23 N23 ap23 hP
      obtain ⟨rfl, t23, rfl⟩ := hP
      refine hQ1 _ _ ?_
      simp only [List.nil_append] at N23
      k_steps
      rw [written_drop]
      refine wpC_args_nil ⟨by k_in, ?_⟩
      refine wpC_of ?_
      refine wpAny_abs fun Q1 hQ1 => ?_
      refine' ct_use0 (read_server_ct w (fieldOf rnd) _ (by rw [fieldOf_length]; omega)) ?B ?F ?X ?N ?T ?hk ?hd ?hu ?_ (fun z => by rw [rsh_field hrnd] at z; cases z)
      walk_at "mine use"
      intro r h25 tk25 foot25 F25 N25 ap25 hP
      obtain ⟨x25, t25, q, rfl⟩ := hP
      refine hQ1 _ _ ?_
      rw [rsh_field hrnd] at q
      cases q
      replace N25 : News g L' _ ((DS, LCg.lst (bytesVals ls)) :: (L' + 1 + 1, o1) :: (L' + 1, o2) :: (190, tabObj #[]) :: foot') := fun p hp => N25 p (List.mem_append_right _ hp)
      refine wpC_of ?_
      walk1
      refine wpC_of (ne_b ?_)
      rw [bne_self_eq_false]
      refine wpC_of ?_
      walk1
      simp only [Bool.false_eq_true, if_false]
      refine wpC_isTrue_or_nil ?_
      simp only [Bool.false_eq_true, if_false]
      refine wpC_of (wpAny_execs_nil ?_)
      refine hR5 _ _ ?_
      dsimp only
      refine wpC_execs_abs fun R6 hR6 => wpC_If (wpC_isTrue_Compare1 (wpC_Call ?_))
      walk1
      refine wpC_callWith (K := htop.heap_1 w.params) (by k_dflt k_is) (wpC_args_cons (wpC_Subscript (wpC_Call ?_)))
      walk1
      refine wpC_callWith (K := htop.heap_1 w.params) (by k_dflt k_is) (wpC_args_cons (wpC_of ?_))
      walk1
      refine wpC_args_cons (wpC_of ?_)
      walk1
      refine wpC_args_nil ⟨by k_in, ?_⟩
      refine wpC_absE fun Q1 hQ1 => ?_
      refine' ctc_use0 (ext_ct w par rnd _ _ (by omega) (by omega)) ?B ?F ?X ?N ?T ?hk ?hd ?hu ?_
      walk_at "mine use"
      intro r h26 tk26 foot26 F26 N26 ap26 hP
      obtain ⟨rfl, t26, rfl⟩ := hP
      refine hQ1 _ _ ?_
      simp only [List.nil_append] at N26
      k_steps
      rw [written_drop]
      refine wpC_args_nil ⟨by k_in, ?_⟩
      refine wpC_of ?_
      refine' ct_use0 (read_ext_ct w (fieldOf par ++ fieldOf rnd) _ (by rw [List.length_append, fieldOf_length, fieldOf_length]; omega) par rnd (rex_two (by omega) (by omega))) ?B ?F ?X ?N ?T ?hk ?hd ?hu ?_ (fun z => nomatch z)
      walk_at "mine use"
      intro r h27 tk27 foot27 F27 N27 ap27 hin27
      obtain ⟨ra2, rfl⟩ := datIn_tup hin27
      refine wpC_of ?_
      k_steps
      with_reducible rename News _ _ _ _ => N28
      refine wpC_of (ne_tup N28 (hin27.mono fun p hp => List.mem_cons_of_mem _ (List.mem_append_left _ hp)) (DatIn.tuple (vs := [_, _]) (List.mem_cons_self ..) (.cons (.bytes _ _) (.cons (.bytes _ _) .nil))) ?deep ?hu ?_)
      case deep =>
        intro d hd
        simp only [List.mem_cons, List.not_mem_nil, or_false] at hd
        rcases hd with rfl | rfl <;> simp [datDeep]
      case hu => (try simp only [A_]); dsimp only [ktrTop, Around.deeper, Around.in1] at *; omega
      replace N28 : News g L' _ ((DS, LCg.lst (bytesVals ls)) :: (L' + 1 + 1, o1) :: (L' + 1, o2) :: (190, tabObj #[]) :: foot') := fun p hp => N28 p (List.mem_cons_of_mem _ (List.mem_append_right _ hp))
      refine wpC_of ?_
      walk1
      simp only [Bool.false_eq_true, if_false]
      refine wpC_of (wpAny_execs_nil ?_)
      refine hR6 _ _ ?_
      dsimp only
      have f190 : ∀ p ∈ foot', @Ne Nat p.1 190 := fun p hp => ap' p hp (190, tabObj #[]) (by simp)
      have fbent : ∀ p ∈ foot', @Ne Nat p.1 (L' + 1 + 1) := fun p hp => ap' p hp (L' + 1 + 1, o1) (by simp)
      refine wpC_of ?_
      k_steps
      unfold Halt
      refine wpAny_abs fun R7 hR7 => ?_
      refine wpAny_ForTupT (L := L') (n := 6) (fun _ v => ∃ (bt : List UInt8) (tv : Tok), v = .bytes bt.toArray tv ∧ rchF bt = none ∧ bt.length ≤ 100000)
        (fun _ g' m nw => ∃ ps junk oB cv, HelJ (framesOf (envX cn cs L a ccd cl :: outer)) g L' o2 foot' (.bytes (helloOf rnd sp par).toArray tb) (.bytes rnd.toArray t1) (.bytes par.toArray t3) pos148 (fun ps => codeAmong pos151 ps.toList = none) g' m nw ps junk oB cv) (by rfl) ?hi1 ?step1 ?fin1
      case hi1 =>
        k_steps
        unfold Halt
        refine wpAny_abs fun Q1 hQ1 => ?_
        refine' ct_use0 (field_ct w [] _ (by decide)) ?B ?F ?X ?N ?T ?hk ?hd ?hu ?_ (fun z => nomatch z)
        walk_at "mine use"
        intro r h28 tk28 foot28 F28 N28 ap28 hP
        obtain ⟨rfl, t28, rfl⟩ := hP
        refine hQ1 _ _ ?_
        simp only [List.nil_append] at N28
        k_steps
        unfold Halt
        refine wpAny_abs fun Q1 hQ1 => ?_
        refine' ct_use0 (field_ct w (cutOf rnd (some 1) none) _ (Nat.lt_of_le_of_lt (cutOf_length_le _ _ _) (by omega))) ?B ?F ?X ?N ?T ?hk ?hd ?hu ?_ (fun z => nomatch z)
        walk_at "mine use"
        intro r h29 tk29 foot29 F29 N29 ap29 hP
        obtain ⟨rfl, t29, rfl⟩ := hP
        refine hQ1 _ _ ?_
        simp only [List.nil_append] at N29
        k_steps
        have hc1 := cutOf_length_le rnd (some 1) none
        have hc2 := cutOf_length_le (helloOf rnd sp par) (some 10) none
        have hc3 := cutOf_length_le (helloOf rnd sp par) none (some (-1))
        have hc4 := cutOf_length_le (helloOf rnd sp par) none (some 1)
        refine add_b (by rw [fieldOf_length]; omega) fun t30 k30 => ?_
        k_steps
        unfold Halt
        with_reducible rename News _ _ _ _ => N30
        with_reducible rename Fr _ _ _ _ => F30
        refine ⟨_, _, _, _, _, g, _, _, rfl, ?hsz, ?hP, rfl, F30, (fun p hp => N30 p (sub_i p hp)), #[], [(DS, LCg.lst (bytesVals ls))], o1, none, ⟨rfl, KtsTurn.refl, rfl, rfl, rfl, trivial, .inl rfl, ?j1, ?j2, c1', rfl⟩⟩
        case hsz => rfl
        case j1 =>
          intro q hq
          rw [List.mem_singleton.mp hq]
          exact Ne.symm (off1 (190, tabObj #[]) (by simp))
        case j2 =>
          intro q hq
          rw [List.mem_singleton.mp hq]
          exact Ne.symm (off1 (L' + 1 + 1, o1) (by simp))
        case hP =>
          have hs6 : sp.length < 65536 := by omega
          have hp6 : par.length < 65536 := by omega
          intro i x hx
          have hi6 : i < 6 := (Array.getElem?_eq_some_iff.mp hx).1
          rcases i with _ | _ | _ | _ | _ | _ | i
          · cases hx
            exact ⟨_, _, rfl, bent_more hrnd hs6 hp6 120, by rw [List.length_append]; simp; omega⟩
          · cases hx
            exact ⟨_, _, rfl, by rw [cut_last]; exact bent_less hrnd hs6 hp6, by omega⟩
          · cases hx
            exact ⟨_, _, rfl, bent_field hrnd hs6 hp6, by rw [List.length_append, fieldOf_length]; simp; omega⟩
          · cases hx
            exact ⟨_, _, rfl, by rw [cut_a _ (by decide), cut_a _ (by decide)]; exact bent_random hrnd hs6 hp6, by rw [List.length_append, fieldOf_length]; omega⟩
          · cases hx
            exact ⟨_, _, rfl, by rw [cut_b _ (by decide)]; exact bent_one hrnd hs6 hp6, by omega⟩
          · cases hx
            exact ⟨[], _, rfl, bent_empty, by decide⟩
          · omega
      case step1 =>
        intro i v t its k I oI g' m nw h tk E' hi hv hJ offI htI F N
        obtain ⟨bt, tv, rfl, hnone, hlen⟩ := hv
        obtain ⟨ps, junk, oB, cv, led, Tu, mb, mr, mp, htr, hla, j190, jbent, hcell, hpn⟩ := hJ
        subst led
        have F30 := fr_known (ps := [(Str.ofString "body", .bytes (helloOf rnd sp par).toArray tb), (Str.ofString "random", .bytes rnd.toArray t1), (Str.ofString "params", .bytes par.toArray t3)]) (fun p hp => by
          simp only [List.mem_cons, List.not_mem_nil, or_false] at hp
          rcases hp with rfl | rfl | rfl
          · exact mb
          · exact mr
          · exact mp) F
        clear F mb mr mp
        have B2 := below_turn B' Tu
        have X2 := XB.keeps B2.stays
        have T2 := TB.keeps B2.stays
        have hcode2 := codeHd192 X2
        have hI1 : @Ne Nat I (L' + 1 + 1) := Ne.symm (offI (L' + 1 + 1, oB) (by simp))
        have hI2 : @Ne Nat I 190 := Ne.symm (offI (190, tabObj ps) (by simp))
        have ht1 : @Ne Nat t (L' + 1 + 1) := fun e => by
          have e1 := (N (t, tupObj its k) (by simp)).1
          have e2 := (N (L' + 1 + 1, oB) (by simp)).1
          dsimp only at e1 e2
          rw [e, e2] at e1
          cases e1
          cases hcell
        have ht2 : @Ne Nat t 190 := fun e => by
          have e1 := (N (t, tupObj its k) (by simp)).1
          have e2 := (N (190, tabObj ps) (by simp)).1
          dsimp only at e1 e2
          rw [e, e2] at e1
          cases e1
        have hb1 : @Ne Nat 190 (L' + 1 + 1) := by omega
        have hb2 : @Ne Nat (L' + 1) (L' + 1 + 1) := Nat.ne_of_lt (Nat.lt_succ_self _)
        refine step_abs fun R9 hR9 => ?_
        k_steps
        unfold Halt
        with_reducible rename News _ _ _ _ => N31
        with_reducible rename Fr _ _ _ _ => F31
        with_reducible rename _ = Data.cell (some (Value.bytes _ _)) => dB
        refine kla_eval rfl ?_
        refine lam_made F31 (fun p hp => N31 p (sub_h p hp)) ?hoff T2 hcode2 rfl htr (junk := junk) (fun q hq => by simp [hq]) hla rfl (fun f c' oc vs tt ctv ps' add h32 tk32 F32 N32 hf hc hd1 hd2 htr' hla2 hoth hlt => ?_)
        case hoff =>
          intro q hq
          simp only [List.mem_cons, List.mem_append] at hq
          rcases hq with rfl | rfl | rfl | rfl | hq | hq
          · exact hI2
          · exact ht2
          · exact Ne.symm hb1
          · exact Nat.ne_of_gt (Nat.lt_succ_of_lt h190L)
          · exact j190 q hq
          · exact f190 q hq
        dsimp only
        clear N31 F31
        k_steps
        unfold Halt
        with_reducible rename News _ _ _ _ => N33
        with_reducible rename Fr _ _ _ _ => F33
        refine wpAny_abs fun Q1 hQ1 => ?_
        refine' (code_ct w 10 f _ ?H ?fn) p loose mean mg mb _ _ _ _ _ _ _ _ _ _ base g' L' _ _ _ _ _ B2 F33 XB N33 (fun _ z => nomatch z) (fun q hq => hq) TB rfl ?hd ?hu ?_
        case hd => dsimp only [ktrTop, Around.deeper, Around.in1] at *; omega
        case hu => (try simp only [A_]); dsimp only [ktrTop, Around.deeper, Around.in1] at *; omega
        case fn => exact ⟨_, _, _, _, List.mem_cons_of_mem _ (List.mem_append_left _ hf)⟩
        case H =>
          refine lam_client w hlen hnone (List.mem_cons_of_mem _ (List.mem_append_left _ hf)) (List.mem_cons_of_mem _ ?hcm) (List.mem_cons_of_mem _ (List.mem_append_right _ (List.mem_cons_of_mem _ (List.mem_cons_of_mem _ (List.mem_cons_self ..))))) hd1 hd2 dB
          rcases List.mem_append.mp hc with hc | hc
          · exact List.mem_append_left _ hc
          · exact List.mem_append_right _ (by simp [hc])
        intro r h34 tk34 foot34 g2 Tu2 F34 N34 ap34 hP
        obtain ⟨rfl, t34, rfl⟩ := hP
        refine hQ1 _ _ ?_
        simp only [List.nil_append] at N34
        clear N33 F33
        dsimp only
        k_steps
        with_reducible rename News _ _ _ _ => N35
        with_reducible rename Fr _ _ _ _ => F35
        refine hR9 .next _ ⟨g2, _, _, _, (190, tabObj ps') :: (L' + 1 + 1, _) :: (L' + 1, o2) :: ((add ++ junk) ++ foot'), rfl, F35, fun p hp => N35 p (sub_h2 p hp), ?off, ps', add ++ junk, _, _, ⟨rfl, Tu.trans Tu2, rfl, rfl, rfl, htr', .inr ⟨c', oc, vs, tt, hla2, hc, hd1, hd2⟩, ?j1, ?j2, dB, hoth pos151 (by decide) hpn⟩⟩
        case off =>
          intro q hq
          simp only [List.mem_cons, List.mem_append] at hq
          rcases hq with rfl | rfl | rfl | (hq | hq) | hq
          · exact Ne.symm hI2
          · exact Ne.symm hI1
          · exact offI (L' + 1, o2) (by simp)
          · exact Nat.ne_of_gt (hlt q hq (I, oI) (by simp))
          · exact offI q (by simp [hq])
          · exact offI q (by simp [hq])
        case j1 =>
          intro q hq
          rcases List.mem_append.mp hq with hq | hq
          · exact Nat.ne_of_gt (hlt q hq (190, tabObj ps) (by simp))
          · exact j190 q hq
        case j2 =>
          intro q hq
          rcases List.mem_append.mp hq with hq | hq
          · exact Nat.ne_of_gt (hlt q hq (L' + 1 + 1, _) (List.mem_cons_of_mem _ (List.mem_cons_of_mem _ (List.mem_cons_of_mem _ (List.mem_cons_self ..)))))
          · exact jbent q hq
      case fin1 =>
        intro g' m nw h tk hJ F N
        obtain ⟨ps, junk, oB, cv, led, Tu, mb, mr, mp, htr, hla, j190, jbent, hcell, hpn⟩ := hJ
        subst led
        have F30 := fr_known (ps := [(Str.ofString "body", .bytes (helloOf rnd sp par).toArray tb), (Str.ofString "random", .bytes rnd.toArray t1), (Str.ofString "params", .bytes par.toArray t3)]) (fun p hp => by
          simp only [List.mem_cons, List.not_mem_nil, or_false] at hp
          rcases hp with rfl | rfl | rfl
          · exact mb
          · exact mr
          · exact mp) F
        clear F mb mr mp
        have B2 := below_turn B' Tu
        have X2 := XB.keeps B2.stays
        have T2 := TB.keeps B2.stays
        refine hR7 _ _ ?_
        dsimp only
        k_steps
        unfold Halt
        refine wpAny_abs fun R8 hR8 => ?_
        refine wpAny_ForTupT (L := L') (n := 4) (fun _ v => ∃ (bt : List UInt8) (tv : Tok), v = .bytes bt.toArray tv ∧ rshF bt = none ∧ bt.length ≤ 100000)
          (fun _ g' m nw => ∃ ps junk oB cv, HelJ (framesOf (envX cn cs L a ccd cl :: outer)) g L' o2 foot' (.bytes (helloOf rnd sp par).toArray tb) (.bytes rnd.toArray t1) (.bytes par.toArray t3) pos151 (fun _ => True) g' m nw ps junk oB cv) (by rfl) ?hi2 ?step2 ?fin2
        case hi2 =>
          k_steps
          unfold Halt
          refine wpAny_abs fun Q1 hQ1 => ?_
          refine' ct_use0 (field_ct w rnd _ (by omega)) ?B ?F ?X ?N ?T ?hk ?hd ?hu ?_ (fun z => nomatch z)
          walk_at "mine use"
          intro r h41 tk41 foot41 F41 N41 ap41 hP
          obtain ⟨rfl, t41, rfl⟩ := hP
          refine hQ1 _ _ ?_
          simp only [List.nil_append] at N41
          k_steps
          unfold Halt
          refine wpAny_abs fun Q1 hQ1 => ?_
          refine' ct_use0 (field_ct w (rnd ++ [120]) _ (by rw [List.length_append]; simp; omega)) ?B ?F ?X ?N ?T ?hk ?hd ?hu ?_ (fun z => nomatch z)
          walk_at "mine use"
          intro r h42 tk42 foot42 F42 N42 ap42 hP
          obtain ⟨rfl, t42, rfl⟩ := hP
          refine hQ1 _ _ ?_
          simp only [List.nil_append] at N42
          k_steps
          unfold Halt
          refine wpAny_abs fun Q1 hQ1 => ?_
          refine' ct_use0 (field_ct w rnd _ (by omega)) ?B ?F ?X ?N ?T ?hk ?hd ?hu ?_ (fun z => nomatch z)
          walk_at "mine use"
          intro r h43 tk43 foot43 F43 N43 ap43 hP
          obtain ⟨rfl, t43, rfl⟩ := hP
          refine hQ1 _ _ ?_
          simp only [List.nil_append] at N43
          k_steps
          unfold Halt
          refine wpAny_abs fun Q1 hQ1 => ?_
          refine' ct_use0 (field_ct w [] _ (by decide)) ?B ?F ?X ?N ?T ?hk ?hd ?hu ?_ (fun z => nomatch z)
          walk_at "mine use"
          intro r h44 tk44 foot44 F44 N44 ap44 hP
          obtain ⟨rfl, t44, rfl⟩ := hP
          refine hQ1 _ _ ?_
          simp only [List.nil_append] at N44
          k_steps

          unfold Halt
          with_reducible rename News _ _ _ _ => N45
          with_reducible rename Fr _ _ _ _ => F45
          refine ⟨_, _, _, _, _, g', _, _, rfl, ?hszB, ?hPB, rfl, F45, N45, ps, junk, oB, cv, ⟨rfl, Tu, rfl, rfl, rfl, htr, .inl hpn, j190, jbent, hcell, trivial⟩⟩
          case hszB => rfl
          case hPB =>
            intro i x hx
            have hi6 : i < 4 := (Array.getElem?_eq_some_iff.mp hx).1
            rcases i with _ | _ | _ | _ | i
            · cases hx
              exact ⟨[], _, rfl, bent_s_empty, by decide⟩
            · cases hx
              exact ⟨_, _, rfl, bent_s_more hrnd 0, by rw [List.length_append, fieldOf_length]; simp; omega⟩
            · cases hx
              exact ⟨_, _, rfl, bent_s_long hrnd 120, by rw [fieldOf_length, List.length_append]; simp; omega⟩
            · cases hx
              exact ⟨_, _, rfl, bent_s_two hrnd, by rw [List.length_append, fieldOf_length, fieldOf_length]; simp; omega⟩
            · omega
        case step2 =>
          intro i v t its k I oI g' m nw h tk E' hi hv hJ offI htI F N
          obtain ⟨bt, tv, rfl, hnone, hlen⟩ := hv
          obtain ⟨ps, junk, oB, cv, led, Tu, mb, mr, mp, htr, hla, j190, jbent, hcell, hpn⟩ := hJ
          subst led
          have F30 := fr_known (ps := [(Str.ofString "body", .bytes (helloOf rnd sp par).toArray tb), (Str.ofString "random", .bytes rnd.toArray t1), (Str.ofString "params", .bytes par.toArray t3)]) (fun p hp => by
            simp only [List.mem_cons, List.not_mem_nil, or_false] at hp
            rcases hp with rfl | rfl | rfl
            · exact mb
            · exact mr
            · exact mp) F
          clear F mb mr mp
          have B2 := below_turn B' Tu
          have X2 := XB.keeps B2.stays
          have T2 := TB.keeps B2.stays
          have hcode2 := codeHd192 X2
          have hI1 : @Ne Nat I (L' + 1 + 1) := Ne.symm (offI (L' + 1 + 1, oB) (by simp))
          have hI2 : @Ne Nat I 190 := Ne.symm (offI (190, tabObj ps) (by simp))
          have ht1 : @Ne Nat t (L' + 1 + 1) := fun e => by
            have e1 := (N (t, tupObj its k) (by simp)).1
            have e2 := (N (L' + 1 + 1, oB) (by simp)).1
            dsimp only at e1 e2
            rw [e, e2] at e1
            cases e1
            cases hcell
          have ht2 : @Ne Nat t 190 := fun e => by
            have e1 := (N (t, tupObj its k) (by simp)).1
            have e2 := (N (190, tabObj ps) (by simp)).1
            dsimp only at e1 e2
            rw [e, e2] at e1
            cases e1
          have hb1 : @Ne Nat 190 (L' + 1 + 1) := by omega
          have hb2 : @Ne Nat (L' + 1) (L' + 1 + 1) := Nat.ne_of_lt (Nat.lt_succ_self _)
          refine step_abs fun R9 hR9 => ?_
          k_steps
          unfold Halt
          with_reducible rename News _ _ _ _ => N31
          with_reducible rename Fr _ _ _ _ => F31
          with_reducible rename _ = Data.cell (some (Value.bytes _ _)) => dB
          refine kla_eval rfl ?_
          refine lam_made F31 (fun p hp => N31 p (sub_h p hp)) ?hoffB T2 hcode2 rfl htr (junk := junk) (fun q hq => by simp [hq]) hla rfl (fun f c' oc vs tt ctv ps' add h32 tk32 F32 N32 hf hc hd1 hd2 htr' hla2 hoth hlt => ?_)
          case hoffB =>
            intro q hq
            simp only [List.mem_cons, List.mem_append] at hq
            rcases hq with rfl | rfl | rfl | rfl | hq | hq
            · exact hI2
            · exact ht2
            · exact Ne.symm hb1
            · exact Nat.ne_of_gt (Nat.lt_succ_of_lt h190L)
            · exact j190 q hq
            · exact f190 q hq
          dsimp only
          clear N31 F31
          k_steps
          unfold Halt
          with_reducible rename News _ _ _ _ => N33
          with_reducible rename Fr _ _ _ _ => F33
          refine wpAny_abs fun Q1 hQ1 => ?_
          refine' (code_ct w 10 f _ ?HB ?fnB) p loose mean mg mb _ _ _ _ _ _ _ _ _ _ base g' L' _ _ _ _ _ B2 F33 XB N33 (fun _ z => nomatch z) (fun q hq => hq) TB rfl ?hd ?hu ?_
          case hd => dsimp only [ktrTop, Around.deeper, Around.in1] at *; omega
          case hu => (try simp only [A_]); dsimp only [ktrTop, Around.deeper, Around.in1] at *; omega
          case fnB => exact ⟨_, _, _, _, List.mem_cons_of_mem _ (List.mem_append_left _ hf)⟩
          case HB =>
            refine lam_server w hlen hnone (List.mem_cons_of_mem _ (List.mem_append_left _ hf)) (List.mem_cons_of_mem _ ?hcmB) (List.mem_cons_of_mem _ (List.mem_append_right _ (List.mem_cons_of_mem _ (List.mem_cons_of_mem _ (List.mem_cons_self ..))))) hd1 hd2 dB
            rcases List.mem_append.mp hc with hc | hc
            · exact List.mem_append_left _ hc
            · exact List.mem_append_right _ (by simp [hc])
          intro r h34 tk34 foot34 g2 Tu2 F34 N34 ap34 hP
          obtain ⟨rfl, t34, rfl⟩ := hP
          refine hQ1 _ _ ?_
          simp only [List.nil_append] at N34
          clear N33 F33
          dsimp only
          k_steps
          with_reducible rename News _ _ _ _ => N35
          with_reducible rename Fr _ _ _ _ => F35
          refine hR9 .next _ ⟨g2, _, _, _, (190, tabObj ps') :: (L' + 1 + 1, _) :: (L' + 1, o2) :: ((add ++ junk) ++ foot'), rfl, F35, fun p hp => N35 p (sub_h2 p hp), ?offB, ps', add ++ junk, _, _, ⟨rfl, Tu.trans Tu2, rfl, rfl, rfl, htr', .inr ⟨c', oc, vs, tt, hla2, hc, hd1, hd2⟩, ?j1B, ?j2B, dB, trivial⟩⟩
          case offB =>
            intro q hq
            simp only [List.mem_cons, List.mem_append] at hq
            rcases hq with rfl | rfl | rfl | (hq | hq) | hq
            · exact Ne.symm hI2
            · exact Ne.symm hI1
            · exact offI (L' + 1, o2) (by simp)
            · exact Nat.ne_of_gt (hlt q hq (I, oI) (by simp))
            · exact offI q (by simp [hq])
            · exact offI q (by simp [hq])
          case j1B =>
            intro q hq
            rcases List.mem_append.mp hq with hq | hq
            · exact Nat.ne_of_gt (hlt q hq (190, tabObj ps) (by simp))
            · exact j190 q hq
          case j2B =>
            intro q hq
            rcases List.mem_append.mp hq with hq | hq
            · exact Nat.ne_of_gt (hlt q hq (L' + 1 + 1, _) (List.mem_cons_of_mem _ (List.mem_cons_of_mem _ (List.mem_cons_of_mem _ (List.mem_cons_self ..)))))
            · exact jbent q hq
        case fin2 =>
          clear F30 B2 X2 T2 htr hla j190 jbent hcell hpn Tu N
          intro g' m nw h tk hJ F N
          obtain ⟨ps, junk, oB, cv, led, Tu, mb, mr, mp, htr, hla, j190, jbent, hcell, hpn⟩ := hJ
          subst led
          have F30 := fr_known (ps := [(Str.ofString "body", .bytes (helloOf rnd sp par).toArray tb), (Str.ofString "random", .bytes rnd.toArray t1), (Str.ofString "params", .bytes par.toArray t3)]) (fun p hp => by
            simp only [List.mem_cons, List.not_mem_nil, or_false] at hp
            rcases hp with rfl | rfl | rfl
            · exact mb
            · exact mr
            · exact mp) F
          clear F mb mr mp
          have B2 := below_turn B' Tu
          have X2 := XB.keeps B2.stays
          have T2 := TB.keeps B2.stays
          have hrf : readF (fieldOf par ++ fieldOf rnd) = some [par, rnd] := by
            have e := readF_field (d := rnd) (r := []) (by omega)
            rw [List.append_nil, readF_empty] at e
            rw [readF_field (by omega), e]
            rfl
          refine hR8 _ _ ?_
          dsimp only
          k_steps
          unfold Halt
          refine wpAny_abs fun Q1 hQ1 => ?_
          refine' ct_use0 (field_ct w par _ (by omega)) ?B ?F ?X ?N ?T ?hk ?hd ?hu ?_ (fun z => nomatch z)
          walk_at "mine use"
          intro r h51 tk51 foot51 F51 N51 ap51 hP
          obtain ⟨rfl, t51, rfl⟩ := hP
          refine hQ1 _ _ ?_
          simp only [List.nil_append] at N51
          k_steps
          unfold Halt
          refine wpAny_abs fun Q1 hQ1 => ?_
          refine' ct_use0 (field_ct w rnd _ (by omega)) ?B ?F ?X ?N ?T ?hk ?hd ?hu ?_ (fun z => nomatch z)
          walk_at "mine use"
          intro r h52 tk52 foot52 F52 N52 ap52 hP
          obtain ⟨rfl, t52, rfl⟩ := hP
          refine hQ1 _ _ ?_
          simp only [List.nil_append] at N52
          k_steps
          unfold Halt
          refine wpAny_abs fun Q1 hQ1 => ?_
          refine' ct_use0 (read_none_ct w (fieldOf par ++ fieldOf rnd) _ (by rw [List.length_append, fieldOf_length, fieldOf_length]; omega)) ?B ?F ?X ?N ?T ?hk ?hd ?hu ?_ (fun z => by rw [hrf] at z; cases z)
          walk_at "mine use"
          intro r h53 tk53 foot53 F53 N53 ap53 hP
          obtain ⟨fs, q, hin⟩ := hP
          refine hQ1 _ _ ?_
          rw [hrf] at q
          cases q
          obtain ⟨ra, rfl⟩ := datIn_lst hin
          dsimp only
          k_steps
          unfold Halt
          with_reducible rename News _ _ _ _ => N54
          refine eq_lst N54 (hin.mono fun p hp => List.mem_cons_of_mem _ (List.mem_append_left _ hp)) (DatIn.list (vs := [_, _]) (List.mem_cons_self ..) (.cons (.bytes _ _) (.cons (.bytes _ _) .nil))) ?deep ?hu ?_
          case deep =>
            intro d hd
            simp only [List.map_cons, List.map_nil, List.mem_cons, List.not_mem_nil, or_false] at hd
            rcases hd with rfl | rfl <;> simp [datDeep, fieldDat]
          case hu => (try simp only [A_]); dsimp only [ktrTop, Around.deeper, Around.in1] at *; omega
          replace N54 : News g' L' _ ((190, tabObj ps) :: (L' + 1 + 1, oB) :: (L' + 1, o2) :: (junk ++ foot')) := fun p hp => N54 p (List.mem_cons_of_mem _ (List.mem_append_right _ hp))
          dsimp only
          k_steps
          unfold Halt
          refine wpAny_abs fun Q1 hQ1 => ?_
          refine' ct_use0 (read_none_ct w [] _ (by decide)) ?B ?F ?X ?N ?T ?hk ?hd ?hu ?_ (fun z => by rw [readF_empty] at z; cases z)
          walk_at "mine use"
          intro r h55 tk55 foot55 F55 N55 ap55 hP
          obtain ⟨fs, q, hin5⟩ := hP
          refine hQ1 _ _ ?_
          rw [readF_empty] at q
          cases q
          obtain ⟨ra5, rfl⟩ := datIn_lst hin5
          dsimp only
          k_steps
          unfold Halt
          with_reducible rename News _ _ _ _ => N56
          refine eq_lst N56 (hin5.mono fun p hp => List.mem_cons_of_mem _ (List.mem_append_left _ hp)) (DatIn.list (vs := []) (List.mem_cons_self ..) .nil) (fun _ z => nomatch z) ?hu ?_
          case hu => (try simp only [A_]); dsimp only [ktrTop, Around.deeper, Around.in1] at *; omega
          replace N56 : News g' L' _ ((190, tabObj ps) :: (L' + 1 + 1, oB) :: (L' + 1, o2) :: (junk ++ foot')) := fun p hp => N56 p (List.mem_cons_of_mem _ (List.mem_append_right _ hp))
          dsimp only
          k_steps
          try unfold Halt
          with_reducible rename Fr _ _ _ _ => F57
          refine hQQ _ _ ⟨g', _, _, _, foot' ++ [(190, tabObj ps)], Tu, rfl, F57, fun p hp => N56 p (sub_e p hp), rfl, foot', ps, rfl, hb'⟩
end
-- FLT
section
/-! a for over a list of the ledger -/
section
variable {prog : Program} {w : World} {A : Around} {E : Value → Shared → Prop} {s : Shared} {L : Addr} {env : Env}
theorem wpAny_ForListT {target iter : PySem.Expr} {body : List Stmt} {pos : Pos} {n : Nat} (P : Nat → Value → Prop) (J : Nat → Heap → (PySem.Str → Option Value) → Led → Prop) {Q : Flow → Shared → Prop} (hh : A.handled = none)
    (hi : wpAny (model prog w) A (eval iter env) (fun v s₁ => ∃ t its k h tk g m nw, v = .ref t ∧ its.size = n ∧ (∀ i x, its[i]? = some x → P i x) ∧ s₁ = { s with heap := h, toks := tk } ∧ Fr g L h m ∧ News g L h ((t, PySem.W.listOf its k) :: nw) ∧ J 0 g m nw) E s)
    (step : ∀ i v t its k I oI g m nw h tk (E' : Value → Shared → Prop), i < n → P i v → J i g m nw → (∀ p ∈ nw, @Ne Nat p.1 I) → @Ne Nat t I → Fr g L h m → News g L h ((I, oI) :: (t, PySem.W.listOf its k) :: nw) →
      wpAny (model prog w) A (assign target env v) (fun _ s₂ => wpAny (model prog w) A (execs body env) (fun f s₃ => match f with
        | .next | .cont => ∃ g' h' tk' m' nw', s₃ = { s with heap := h', toks := tk' } ∧ Fr g' L h' m' ∧ News g' L h' ((I, oI) :: (t, PySem.W.listOf its k) :: nw') ∧ (∀ p ∈ nw', @Ne Nat p.1 I) ∧ J (i + 1) g' m' nw'
        | .brk => False
        | .ret v => Q (.ret v) s₃) E' s₂) E' { s with heap := h, toks := tk })
    (fin : ∀ g m nw h tk, J n g m nw → Fr g L h m → News g L h nw → Q .next { s with heap := h, toks := tk })
    (hs : ∀ x, foldedSetIterable iter env x = pure x := by intro _; rfl) (hlet : ∀ it v, letOwnedTupleGo target it v = pure () := by intro _ _; rfl) :
    wpAny (model prog w) A (exec (.For target iter body [] pos) env) Q E s := by
  refine wpAny_For (wpAny_mono hi (fun xv s₁ h₁ => ?_) fun _ _ e => e) hs
  obtain ⟨t, its, k, h1, tk1, g, m, nw, rfl, hsz, hP, rfl, F, N, hJ⟩ := h₁
  have ht : h1.IsList t its := ⟨_, (N _ (List.mem_cons_self ..)).1, rfl, _, rfl⟩
  refine wpAny_pyIter_list ht ?_
  have upI : ∀ b o, h1.get? b = some o → (h1.push { cls := .type "list_iterator", data := .fields #[.ref t, .int 0 0] }).get? b = some o := fun b o e => Heap.get?_push_of_some _ e
  have atI : (h1.push { cls := .type "list_iterator", data := .fields #[.ref t, .int 0 0] }).get? h1.objs.size = some { cls := .type "list_iterator", data := .fields #[.ref t, .int 0 0] } := Heap.get?_push_size _ rfl
  have nI : g.get? h1.objs.size = none := next_is_new F
  have hLI : L ≠ h1.objs.size := Nat.ne_of_lt F.ns.lt
  have off : ∀ p ∈ (t, PySem.W.listOf its k) :: nw, p.1 ≠ h1.objs.size := fun p hp => Nat.ne_of_lt (Heap.lt_size (N p hp).1)
  dsimp only
  generalize h1.objs.size = I at *
  refine codeAny_forLoop
    (fun kk s' => ∃ g' h' tk i m' nw oI, s' = { s with heap := h', toks := tk } ∧ i ≤ n ∧ kk = n + 1 - i ∧ h'.IsListIter I t i ∧ Fr g' L h' m' ∧ News g' L h' ((I, oI) :: (t, PySem.W.listOf its k) :: nw) ∧ (∀ p ∈ nw, @Ne Nat p.1 I) ∧ J i g' m' nw) ?_ (n + 1)
    ⟨g, _, tk1, 0, m, nw, { cls := .type "list_iterator", data := .fields #[.ref t, .int 0 0] }, rfl, Nat.zero_le _, rfl, ⟨_, atI, rfl, rfl⟩, F.keeps upI, ?_, fun p hp => off p (List.mem_cons_of_mem _ hp), hJ⟩ (fun v => hlet _ v)
  · rintro kk s' ⟨g', h', tk, i, m', nw, oI, rfl, hi', rfl, hit, F', N', off', hJ⟩
    have ht' : h'.IsList t its := ⟨_, (N' _ (List.mem_cons_of_mem _ (List.mem_cons_self ..))).1, rfl, _, rfl⟩
    have htI : @Ne Nat t I := off (t, PySem.W.listOf its k) (List.mem_cons_self ..)
    have nI' := (N' (I, oI) (List.mem_cons_self ..)).2.2
    have hIL : L ≠ I := Ne.symm (N' (I, oI) (List.mem_cons_self ..)).2.1
    by_cases hlt : i < n
    · have hlt' : i < its.size := by omega
      refine wpAny_pyNext_list_item hit ht' (x := its[i]) (by simp [hlt']) fun h₂ hit₂ hs₂ => ?_
      dsimp only
      obtain ⟨oI₂, heI, hoI⟩ := hit₂
      have F₂ : Fr g' L h₂ m' := F'.change hs₂ (Ne.symm hIL) nI'
      have N₂ : News g' L h₂ ((I, oI₂) :: (t, PySem.W.listOf its k) :: nw) := fun p hp => by
        rcases List.mem_cons.mp hp with rfl | hp
        · exact ⟨heI, Ne.symm hIL, nI'⟩
        · refine ⟨hs₂.extBut _ _ ?_ (N' p (List.mem_cons_of_mem _ hp)).1, (N' p (List.mem_cons_of_mem _ hp)).2⟩
          rcases List.mem_cons.mp hp with rfl | hp
          · exact htI
          · exact off' p hp
      refine wpAny_mono (step i its[i] t its k I oI₂ g' m' nw h₂ _ _ hlt (hP _ _ (by simp [hlt'])) hJ off' htI F₂ N₂) (fun _ s₂ h₂' => wpAny_mono h₂' (fun f s₃ h₃ => ?_) fun _ _ x => x) fun _ _ x => x
      have go : (∃ g' h' tk' m' nw', s₃ = { s with heap := h', toks := tk' } ∧ Fr g' L h' m' ∧ News g' L h' ((I, oI₂) :: (t, PySem.W.listOf its k) :: nw') ∧ (∀ p ∈ nw', @Ne Nat p.1 I) ∧ J (i + 1) g' m' nw') →
          ∃ m, m < n + 1 - i ∧ ∃ g' h' tk i m' nw oI, s₃ = { s with heap := h', toks := tk } ∧ i ≤ n ∧ m = n + 1 - i ∧ h'.IsListIter I t i ∧ Fr g' L h' m' ∧ News g' L h' ((I, oI) :: (t, PySem.W.listOf its k) :: nw) ∧ (∀ p ∈ nw, @Ne Nat p.1 I) ∧ J i g' m' nw := by
        rintro ⟨g4, h4, tk4, m4, nw4, rfl, F4, N4, off4, hJ4⟩
        exact ⟨n + 1 - (i + 1), by omega, g4, h4, tk4, i + 1, m4, nw4, oI₂, rfl, hlt, rfl, ⟨oI₂, (N4 _ (List.mem_cons_self ..)).1, hoI⟩, F4, N4, off4, hJ4⟩
      cases f with
      | next => exact go h₃
      | cont => exact go h₃
      | brk => exact h₃.elim
      | ret v => exact h₃
    · obtain rfl : i = n := Nat.le_antisymm hi' (Nat.not_lt.mp hlt)
      refine wpAny_pyNext_list_end hh hit ht' (by simp [hsz]) fun h₂ he₂ => ?_
      dsimp only
      refine wpAny_execs_nil ?_
      refine fin g' m' nw h₂ _ hJ (LCg.fr_but F' (fun b o hb e => he₂ b o (by simpa using hb) e) hIL nI') fun p hp => ?_
      exact ⟨he₂ _ _ (off' p hp) (N' p (List.mem_cons_of_mem _ (List.mem_cons_of_mem _ hp))).1, (N' p (List.mem_cons_of_mem _ (List.mem_cons_of_mem _ hp))).2⟩
  · intro p hp
    rcases List.mem_cons.mp hp with rfl | hp
    · exact ⟨atI, Ne.symm hLI, nI⟩
    · exact ⟨upI _ _ (N p hp).1, (N p hp).2⟩
end
end
-- LW
section
local macro_rules | `(tactic| walk_at "call ref") => `(tactic| ((with_reducible show wpAny _ _ (call (Value.ref _) _) _ _ _); refine Halt.go ?_))
local macro_rules | `(tactic| walk_at "exec For Name Subscript cons nil") => `(tactic| (refine Halt.go ?_))
local macro_rules | `(tactic| walk_at "Exists") => `(tactic| (refine Halt.go ?_))
theorem ints_item : ∀ {vs : List Value} {ns : List Int}, IntsAre vs ns → ∀ (i : Nat) (v : Value), vs[i]? = some v → ∃ n t, v = .int n t
  | _, _, .nil, i, v, h => by simp at h
  | _, _, .cons n t r, 0, v, h => by simp at h; exact ⟨n, t, h.symm⟩
  | _, _, .cons n t r, i + 1, v, h => ints_item r i v (by simpa using h)
theorem box_off {w0 : Addr} {foot nw : Led} {g h : Heap} {L P : Addr} {ps : Array Value} (hb : IsBox w0 foot) (N : News g L h nw) (hs : ∀ p ∈ foot, p ∈ nw) (hP : (P, tabObj ps) ∈ nw) : ∀ p ∈ foot, @Ne Nat p.1 P := by
  intro p hp e
  have e1 := (N p (hs p hp)).1
  have e2 := (N _ hP).1
  dsimp only at e2
  rw [e, e2] at e1
  obtain ⟨l, vs, xs, sd, tk, n1, n2, rfl, _⟩ := hb
  simp only [boxLed, List.mem_cons, List.not_mem_nil, or_false] at hp
  rcases hp with rfl | rfl <;> cases e1
theorem law_box {g h : Heap} {L bx l : Addr} {sd : Int} {ts : Tok} {n1 n2 : Nat} {ws : List Value} {ys : List Int} {x : Addr × Obj} {rest : Led} (N : News g L h ((bx, PySem.W.listOf #[.ref l, .int sd ts] n1) :: (l, PySem.W.listOf ws.toArray n2) :: x :: rest)) (hlb : @LT.lt Nat _ l bx) (hW : IntsAre ws ys) (hy : ys.length ≤ 63) (s0 : 0 ≤ sd) (s1 : sd < 2147483647) :
    ∃ foot, IsBox bx foot ∧ (∀ p ∈ foot, p.1 = bx ∨ p.1 = l) ∧ News g L h (foot ++ rest) := by
  refine ⟨[(bx, PySem.W.listOf #[.ref l, .int sd ts] n1), (l, PySem.W.listOf ws.toArray n2)], IsBox.of hlb hW hy s0 s1, fun p hp => ?_, fun p hp => N p ?_⟩
  · simp only [List.mem_cons, List.not_mem_nil, or_false] at hp
    rcases hp with rfl | rfl
    · exact .inl rfl
    · exact .inr rfl
  · simp only [List.mem_cons, List.not_mem_nil, or_false, List.cons_append, List.nil_append] at hp ⊢
    rcases hp with hp | hp | hp
    · exact .inl hp
    · exact .inr (.inl hp)
    · exact .inr (.inr (.inr hp))
theorem no_cells {l : List (PySem.Str × NameKind)} (h : (l.all fun x => !decide (x.2 = .cell)) = true) : ∀ x ∈ l, x.2 ≠ .cell := fun x hx => by
  have := List.all_eq_true.mp h x hx
  simpa using this
theorem law_of (h : PySem.Challenge.rw_no0064_01.row.Holds) : PySem.Challenge.rw_no0064_01.Holds := ⟨wsaid, h⟩
set_option maxHeartbeats 8000000 in
theorem law_walk : PySem.Challenge.rw_no0064_01.Holds := by
  refine law_of (htop ?_)
  intro w s₀ s₁ mg mb G Y fa o pm cd doc dV kV ho hd hcd hD hmg hg args vals as hpre hlay hrd hwl hlo
  have KX := km_in_of Y
  km_tabs Y
  have X := (Ground.X G).1
  have V := (Ground.X G).2
  refine Ground.open G ?_
  intro T B D TE TW
  try (refine guard_noD D (by decide +kernel) ?_; clear D)
  km_lay T hmg ho hd cd
  clear hmg
  wrow_args hpre hlay hrd hwl hlo
  rename_i xs q1 q2 q3 q4 q5 q6 q7 ax vs q8 hL q9 q10 q11 hI q12 hcond q13
  clear q1 q2 q3 q4 q5 q9 q10 q11 q12 q13 X V B TE TW G
  have hlen : xs.length ≤ 63 := by omega
  show wpC (model PR w) callerA (call (.ref fa) [.ref ax]) _ _ s₁
  obtain rfl := hD.pos_none rfl
  obtain rfl := hD.kw_none rfl
  refine wpC_call ?_
  refine codeC_call_def (binds := [("script", .ref ax)]) (by decide) ho hd T.nolimit hcd rfl ?hbind ?hcell ?hloc (fun h₀ hns hk₀ => ?_)
  case hbind => with_unfolding_all rfl
  case hcell => exact no_cells rfl
  case hloc => exact locs rfl
  generalize hLs : s₁.heap.objs.size = L' at hns ⊢
  have F : Fr s₁.heap L' h₀ (fun y => ([((Str.ofString "script" : PySem.Str), Value.ref ax)]).reverse.lookup y) := ⟨hns, hk₀, Nat.le_of_eq hLs⟩
  have XG := ghost_K hT9 KX (by kernel_rfl)
  have TG := ghost_top hT9 T
  have BG := ghost_below hT9
  have NG := ghost_news hT9 F News.nil
  have FG := ghost_fr hT9 F
  have hLG := ghost_list hT9 hL
  have lowG := ghost_lt hT9 F
  simp only [tabNews, List.map_cons, List.map_nil, List.nil_append] at NG lowG
  obtain ⟨g, hgg⟩ : ∃ g, g = ghostOf s₁.heap [(192, 190), (180, 176)] := ⟨_, rfl⟩
  rw [← hgg] at XG TG BG NG FG hLG
  show wpC (model PR w) (callerA.deeper (envOf (Str.ofString "law") _ L' fa cd)) (execs _ (envOf (Str.ofString "law") _ L' fa cd)) _ _ _
  dsimp only [docDef]
  refine wpC_mono (Q := fun f s' => f = .ret (.bool true) ∧ ∃ h' tk', s' = { s₁ with heap := h', toks := tk' } ∧ (∀ b o, g.get? b = some o → h'.get? b = some o) ∧ (∃ ps, h'.get? 190 = some (tabObj ps)) ∧ (∃ ps, h'.get? 176 = some (tabObj ps))) (E := fun _ _ => False) ?main ?good (fun _ _ z => z.elim)
  case good =>
    rintro f s' ⟨rfl, h', tk', rfl, keep, g1, g2⟩
    have keep' : ∀ b o, b ≠ 190 → b ≠ 176 → s₁.heap.get? b = some o → h'.get? b = some o := fun b o n1 n2 e => keep b o (by rw [hgg]; exact ghost_ne e (by simp [n1, n2]))
    have ta := hT9 (192, 190) (by simp)
    have tb := hT9 (180, 176) (by simp)
    refine ⟨.inl ⟨_, .bool true, [], rfl, fun _ => rfl, .bool _, by with_unfolding_all rfl, fun _ => ⟨List.nodup_nil, fun _ h => nomatch h⟩⟩, ⟨fun b o e => ?_, fun b o e => ?_⟩, rfl, .of_eq hg⟩
    · by_cases n1 : b = 190
      · subst n1
        have e2 := ta.2
        rw [e] at e2
        cases e2
        obtain ⟨ps, hps⟩ := g1
        exact .inr (.inl ⟨(ta.1.tab ta.2).isCodeTable, rfl, #[], ps, rfl, by rw [Array.empty_append]; exact hps⟩)
      · by_cases n2 : b = 176
        · subst n2
          have e2 := tb.2
          rw [e] at e2
          cases e2
          obtain ⟨ps, hps⟩ := g2
          exact .inr (.inl ⟨(tb.1.tab tb.2).isCodeTable, rfl, #[], ps, rfl, by rw [Array.empty_append]; exact hps⟩)
        · exact .inl (keep' b o n1 n2 e)
    · by_cases n1 : b = 190
      · subst n1
        obtain ⟨ps, hps⟩ := g1
        exact ⟨_, hps⟩
      · by_cases n2 : b = 176
        · subst n2
          obtain ⟨ps, hps⟩ := g2
          exact ⟨_, hps⟩
        · exact ⟨o, keep' b o n1 n2 e⟩
  case main =>
    clear hL ho hd hcd hD hT9 hT8 KX T F hns hk₀ hgg
    refine wpC_execs_cons (wpC_of ?_)
    k_steps
    dsimp only
    with_reducible rename Fr _ _ _ _ => F1
    refine wpC_execs_cons (wpC_of ?_)
    refine wpAny_ForListT (L := L') (n := (xs.take 24).length) (fun _ v => ∃ n t, v = .int n t)
      (fun _ g' m nw => g' = g ∧ nw = [(190, tabObj #[]), (176, tabObj #[])] ∧ m (Str.ofString "script") = some (.ref ax) ∧ ∃ sd tk, m (Str.ofString "seed") = some (.int sd tk) ∧ 0 ≤ sd ∧ sd < 2147483647) (by rfl) ?hi ?step ?fin
    case hi =>
      k_steps
      unfold Halt
      with_reducible rename IntsAre _ (List.take 24 xs) => hW
      with_reducible rename News _ _ _ _ => N2
      with_reducible rename Fr _ _ _ _ => F2
      refine ⟨_, _, _, _, _, g, _, _, rfl, ?hsz, ?hP, rfl, F2, N2, rfl, rfl, rfl, 77, _, rfl, by decide, by decide⟩
      case hsz => rw [List.size_toArray]; exact hW.length
      case hP => exact fun i x hx => ints_item hW i x (by simpa using hx)
    case step =>
      intro i v t its k I oI g' m nw h tk E' hi hv hJ offI htI F N
      obtain ⟨n, tn, rfl⟩ := hv
      obtain ⟨rfl, rfl, ms, sd, ts, mseed, s0, s1⟩ := hJ
      have F2 := fr_known (ps := [(Str.ofString "seed", .int sd ts), (Str.ofString "script", .ref ax)]) (fun p hp => by
        simp only [List.mem_cons, List.not_mem_nil, or_false] at hp
        rcases hp with rfl | rfl
        · exact mseed
        · exact ms) F
      clear F F1 ms mseed
      k_steps
      unfold Halt
      dsimp only
      with_reducible rename News _ _ _ _ => N3
      with_reducible rename Fr _ _ _ _ => F3
      exact ⟨_, _, _, _, [(190, tabObj #[]), (176, tabObj #[])], rfl, F3, N3, offI, rfl, rfl, rfl, _, _, rfl, fmod_lo _ (by decide), fmod_hi _ (by decide)⟩
    case fin =>
      intro g' m nw h tk hJ F N
      obtain ⟨rfl, rfl, ms, sd, ts, mseed, s0, s1⟩ := hJ
      have F2 := fr_known (ps := [(Str.ofString "seed", .int sd ts), (Str.ofString "script", .ref ax)]) (fun p hp => by
        simp only [List.mem_cons, List.not_mem_nil, or_false] at hp
        rcases hp with rfl | rfl
        · exact mseed
        · exact ms) F
      clear F F1 ms mseed
      dsimp only
      refine wpC_execs_cons (wpC_of ?_)
      k_steps
      dsimp only
      with_reducible rename IntsAre _ (List.take 24 xs) => hW
      with_reducible rename _ < _ ∧ _ < _ ∧ _ < _ ∧ _ < _ => l4
      with_reducible rename _ < _ ∧ _ < _ ∧ _ < _ => l3
      with_reducible rename News _ _ _ _ => N4
      with_reducible rename Fr _ _ _ _ => F4
      obtain ⟨foot, hbox, hfo, N5⟩ := law_box N4 l4.1 hW (Nat.le_trans (List.length_take_le _ _) (by decide)) s0 s1
      have hne : ∀ p ∈ foot, @Ne Nat p.1 190 ∧ @Ne Nat p.1 176 := fun p hp => by
        rcases hfo p hp with e | e
        · rw [e]
          exact ⟨Nat.ne_of_gt l4.2.2.1, Nat.ne_of_gt l4.2.2.2⟩
        · rw [e]
          exact ⟨Nat.ne_of_gt l3.2.1, Nat.ne_of_gt l3.2.2⟩
      have F5 := F4
      clear N4 F4 l4 l3
      refine wpC_execs_cons (wpC_Return (wpC_BoolOp_and (wpC_Call ?_)))
      walk1
      refine wpC_callWith (K := htop.heap_1 w.params) (by k_dflt k_is) (wpC_args_cons (wpC_of ?_))
      walk1
      refine wpC_args_nil ⟨by k_in, ?_⟩
      refine' ctc_useF (rest := [(190, tabObj #[]), (176, tabObj #[])]) (cuts_ct w _ foot hbox) ?sub ?ap BG F5 XG N5 TG ?hk ?hd ?hu ?_
      case sub => exact fun p hp => hp
      case ap =>
        intro p hp q hq
        simp only [List.mem_cons, List.not_mem_nil, or_false] at hq
        rcases hq with rfl | rfl
        · exact (hne p hp).1
        · exact (hne p hp).2
      case hk => rfl
      case hd => decide
      case hu => decide
      intro r h1 tk1 foot1 F6 N6 ap6 hP
      obtain ⟨rfl, hb1⟩ := hP
      refine wpC_of ?_
      walk1
      simp only [if_true]
      refine wpC_BoolOp_and (wpC_of ?_)
      k_steps
      unfold Halt
      with_reducible rename News _ _ _ _ => N7
      with_reducible rename Fr _ _ _ _ => F7
      have o176 : ∀ p ∈ foot1, @Ne Nat p.1 176 := fun p hp => ap6 p hp (176, tabObj #[]) (by simp)
      have o190 : ∀ p ∈ foot1, @Ne Nat p.1 190 := fun p hp => ap6 p hp (190, tabObj #[]) (by simp)
      refine' (long_ct w _ foot1 hb1 o176) _ _ _ _ _ _ _ _ _ _ _ _ _ _ callerA _ _ L' _ [(190, tabObj #[])] _ _ _ BG F7 XG ?N ?ap2 (fun _ z => nomatch z) TG rfl ?hd2 ?hu2 ?_
      case N =>
        intro p hp
        refine N7 p ?_
        simp only [List.mem_append, List.mem_cons, List.not_mem_nil, or_false] at hp ⊢
        rcases hp with (hp | hp) | hp
        · exact .inl hp
        · exact .inr (.inr hp)
        · exact .inr (.inl hp)
      case ap2 =>
        intro p hp q hq
        rw [List.mem_singleton.mp hq]
        rcases List.mem_append.mp hp with hp | hp
        · exact o190 p hp
        · rw [List.mem_singleton.mp hp]
          exact (by decide : @Ne Nat 176 190)
      case hd2 => decide
      case hu2 => decide
      intro r h2 tk2 foot2' g2 Tu F8 N8 ap8 hP
      obtain ⟨rfl, foot2, ps2, rfl, hb2⟩ := hP
      have B2 := below_turn BG Tu
      have X2 := XG.keeps B2.stays
      have T2 := TG.keeps B2.stays
      have p176 : ∀ p ∈ foot2, @Ne Nat p.1 176 := box_off hb2 N8 (fun p hp => by simp [hp]) (ps := ps2) (by simp)
      have p190 : ∀ p ∈ foot2, @Ne Nat p.1 190 := fun p hp => ap8 p (List.mem_append_left _ hp) (190, tabObj #[]) (by simp)

      dsimp only
      refine wpC_of ?_
      walk1
      simp only [if_true]
      refine wpC_BoolOp_one (wpC_Call ?_)
      walk1
      refine wpC_callWith (K := htop.heap_1 w.params) (by k_dflt k_is) (wpC_args_cons (wpC_of ?_))
      walk1
      refine wpC_args_nil ⟨by k_in, ?_⟩
      refine' (hellos_ct w _ foot2 hb2 p190) _ _ _ _ _ _ _ _ _ _ _ _ _ _ callerA _ g2 L' _ [(176, tabObj ps2)] _ _ _ B2 F8 XG ?N3 ?ap3 (fun _ z => nomatch z) TG rfl ?hd3 ?hu3 ?_
      case N3 =>
        intro p hp
        refine N8 p ?_
        simp only [List.mem_append, List.mem_cons, List.not_mem_nil, or_false] at hp ⊢
        rcases hp with (hp | hp) | hp
        · exact .inl (.inl hp)
        · exact .inr hp
        · exact .inl (.inr hp)
      case ap3 =>
        intro p hp q hq
        rw [List.mem_singleton.mp hq]
        rcases List.mem_append.mp hp with hp | hp
        · exact p176 p hp
        · rw [List.mem_singleton.mp hp]
          exact (by decide : @Ne Nat 190 176)
      case hd3 => decide
      case hu3 => decide
      intro r h3 tk3 foot3' g3 Tu3 F10 N10 ap10 hP
      obtain ⟨rfl, foot3, ps3, rfl, hb3⟩ := hP
      dsimp only
      refine ⟨rfl, h3, tk3, rfl, fun b o e => F10.keep _ _ (Tu3.other _ _ (Tu.other _ _ e (fun z => nomatch z)) (fun z => nomatch z)), ⟨ps3, (N10 (190, tabObj ps3) (by simp)).1⟩, ⟨ps2, (N10 (176, tabObj ps2) (by simp)).1⟩⟩
end
end Mine
theorem PySem.Challenge.cw_no0064_01_holds : PySem.Challenge.rw_no0064_01.Holds := by
  exact Mine.law_walk
