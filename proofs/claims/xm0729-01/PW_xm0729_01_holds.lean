import PyProof.Rows.All
import Wide.All
import OpenK.AllK
import Wide.FinOn
import Lean
import PySem.Challenge.RW_xm0729_01
open PySem PySem.W PyProof.Rows PySem.Calls
set_option Elab.async false
set_option maxRecDepth 100000
namespace Mine
set_option maxHeartbeats 8000000
section
def at1 (i : Nat) (l : List Stmt) : Stmt := l.getD i (.Pass ⟨0, 0, 0, 0⟩)
def topB : List Stmt := PySem.Challenge.pw_xm0729_01.main.body
def cB : Stmt → List Stmt
  | .ClassDef _ _ _ b .. => b
  | _ => []
def fA : Stmt → Arguments
  | .FunctionDef _ a .. => a
  | _ => default
def fB : Stmt → List Stmt
  | .FunctionDef _ _ b .. => b
  | _ => []
def fS : Stmt → Scope
  | .FunctionDef _ _ _ _ _ _ s .. => s
  | _ => default
noncomputable def ho43 : Params → Obj :=
fun P => { cls := Value.type "tuple", data := Data.seq #[] }
noncomputable def ho44 : Params → Obj :=
fun P => { cls := Value.none, data := Data.fields #[] }
noncomputable def ho45 : Params → Obj :=
fun P =>
  { cls := Value.type "code",
    data :=
      Data.fields
        #[Value.str (Str.ofString "<module>") 182, Value.str (Str.ofString "<module>") 183,
          Value.str (Str.ofString "/claim/cut.py") 184, Value.int 1 0, Value.int 0 0, Value.int 0 0, Value.int 0 0,
          Value.int 0 0, Value.ref 11, Value.bool false, Value.int 181 0, Value.ref 12, Value.none, Value.none,
          Value.none, Value.none, Value.int 185 0, Value.int 1 0, Value.str (Str.ofString "/claim/cut.py") 186] }
noncomputable def ho46 : Params → Obj :=
fun P =>
  { cls := Value.type "frame",
    slots :=
      #[some (Value.ref 13), some (Value.ref 3), some (Value.ref 3), none,
        some (Value.str (Str.ofString "__main__") 164), none, some (Value.ref 0)] }
noncomputable def ho49 : Params → Obj :=
fun P =>
  { cls := Value.none,
    data :=
      Data.dict
        #[{ hash := PyData.keyHash P (Str.ofString "type.__subclasses__.Exception.0"),
            key := Value.str (Str.ofString "type.__subclasses__.Exception.0") 221, val := Value.int 38 0 },
          { hash := PyData.keyHash P (Str.ofString "type.__subclasses__.Exception.n"),
            key := Value.str (Str.ofString "type.__subclasses__.Exception.n") 222, val := Value.int 1 0 }]
        2 }
noncomputable def ho50 : Params → Obj :=
fun P =>
  { cls := Value.type "dict",
    data :=
      Data.dict
        #[{ hash := PyData.keyHash P (Str.ofString "__name__"), key := Value.str (Str.ofString "__name__") 165,
            val := Value.str (Str.ofString "outlinemill.errors") 194 },
          { hash := PyData.keyHash P (Str.ofString "__doc__"), key := Value.str (Str.ofString "__doc__") 166,
            val := Value.none },
          { hash := PyData.keyHash P (Str.ofString "__package__"), key := Value.str (Str.ofString "__package__") 167,
            val := Value.none },
          { hash := PyData.keyHash P (Str.ofString "__loader__"), key := Value.str (Str.ofString "__loader__") 168,
            val := Value.builtin "__main__.__loader__#opaque" },
          { hash := PyData.keyHash P (Str.ofString "__spec__"), key := Value.str (Str.ofString "__spec__") 169,
            val := Value.none },
          { hash := PyData.keyHash P (Str.ofString "__annotations__"),
            key := Value.str (Str.ofString "__annotations__") 170, val := Value.ref 6 },
          { hash := PyData.keyHash P (Str.ofString "__builtins__"), key := Value.str (Str.ofString "__builtins__") 171,
            val := Value.ref 4 },
          { hash := PyData.keyHash P (Str.ofString "__file__"), key := Value.str (Str.ofString "__file__") 173,
            val := Value.str (Str.ofString "/claim/cut.py") 172 },
          { hash := PyData.keyHash P (Str.ofString "__cached__"), key := Value.str (Str.ofString "__cached__") 174,
            val := Value.none },
          { hash := PyData.keyHash P (Str.ofString "_wall"), key := Value.str (Str.ofString "_wall") 193,
            val := Value.ref 21 },
          { hash := PyData.keyHash P (Str.ofString "MillError"), key := Value.str (Str.ofString "MillError") 224,
            val := Value.ref 38 }]
        11 }
noncomputable def ho51 : Params → Obj :=
fun P =>
  { cls := Value.none,
    data := Data.fields #[Value.int 1 0, Value.int 0 0, Value.ref 20, Value.int 5 0, Value.int 0 0, Value.ref 27] }
noncomputable def ho52 : Params → Obj :=
fun P => { cls := Value.type "tuple", data := Data.seq #[] }
noncomputable def ho53 : Params → Obj :=
fun P => { cls := Value.none, data := Data.fields #[] }
noncomputable def ho54 : Params → Obj :=
fun P => { cls := Value.type "tuple", data := Data.seq #[Value.str (Str.ofString "k") 190] }
noncomputable def ho55 : Params → Obj :=
fun P => { cls := Value.type "tuple", data := Data.seq #[] }
noncomputable def ho56 : Params → Obj :=
fun P =>
  { cls := Value.none,
    data :=
      Data.func
        { name := Str.ofString "_wall", qualname := Str.ofString "_wall", params := (fA (at1 0 topB)), body := FuncBody.stmts (fB (at1 0 topB)),
          scope := (fS (at1 0 topB)), globals := 0, closure := [], defaults := Value.none, kwdefaults := Value.none } }
noncomputable def ho57 : Params → Obj :=
fun P =>
  { cls := Value.type "code",
    data :=
      Data.fields
        #[Value.str (Str.ofString "_wall") 187, Value.str (Str.ofString "_wall") 188,
          Value.str (Str.ofString "/claim/cut.py") 189, Value.int 1 0, Value.int 1 0, Value.int 0 0, Value.int 0 0,
          Value.int 3 0, Value.ref 15, Value.bool true, Value.int 181 0, Value.ref 16, Value.none, Value.ref 17,
          Value.ref 18, Value.ref 19, Value.int 191 0, Value.int 1 0, Value.str (Str.ofString "/claim/cut.py") 192] }
noncomputable def ho58 : Params → Obj :=
fun P =>
  { cls := Value.type "function",
    data :=
      Data.func
        { name := Str.ofString "_wall", qualname := Str.ofString "_wall", params := (fA (at1 0 topB)), body := FuncBody.stmts (fB (at1 0 topB)),
          scope := (fS (at1 0 topB)), globals := 3, closure := [], defaults := Value.none, kwdefaults := Value.none,
          pyModule := Value.str (Str.ofString "__main__") 164, code := Value.ref 20 } }
noncomputable def ho59 : Params → Obj :=
fun P => { cls := Value.type "tuple", data := Data.seq #[Value.type "Exception"] }
noncomputable def ho60 : Params → Obj :=
fun P =>
  { cls := Value.type "builtin_function_or_method",
    data := Data.fields #[Value.builtin "type.__prepare__", Value.type "type"] }
noncomputable def ho61 : Params → Obj :=
fun P =>
  { cls := Value.type "dict",
    data :=
      Data.dict
        #[{ hash := PyData.keyHash P (Str.ofString "__module__"), key := Value.str (Str.ofString "__module__") 203,
            val := Value.str (Str.ofString "outlinemill.errors") 194 },
          { hash := PyData.keyHash P (Str.ofString "__qualname__"), key := Value.str (Str.ofString "__qualname__") 205,
            val := Value.str (Str.ofString "MillError") 204 },
          { hash := PyData.keyHash P (Str.ofString "__firstlineno__"),
            key := Value.str (Str.ofString "__firstlineno__") 207, val := Value.int 5 206 },
          { hash := PyData.keyHash P (Str.ofString "__init__"), key := Value.str (Str.ofString "__init__") 215,
            val := Value.ref 35 },
          { hash := PyData.keyHash P (Str.ofString "__static_attributes__"),
            key := Value.str (Str.ofString "__static_attributes__") 217, val := Value.ref 36 }]
        5 }
noncomputable def ho62 : Params → Obj :=
fun P => { cls := Value.type "tuple", data := Data.seq #[] }
noncomputable def ho63 : Params → Obj :=
fun P => { cls := Value.none, data := Data.fields #[Value.int 7 0, Value.int 4 0, Value.ref 34] }
noncomputable def ho64 : Params → Obj :=
fun P =>
  { cls := Value.type "code",
    data :=
      Data.fields
        #[Value.str (Str.ofString "MillError") 198, Value.str (Str.ofString "MillError") 199,
          Value.str (Str.ofString "/claim/cut.py") 200, Value.int 5 0, Value.int 0 0, Value.int 0 0, Value.int 0 0,
          Value.int 0 0, Value.ref 25, Value.bool false, Value.int 181 0, Value.ref 26, Value.none, Value.none,
          Value.none, Value.none, Value.int 201 0, Value.int 5 0, Value.str (Str.ofString "/claim/cut.py") 202] }
noncomputable def ho65 : Params → Obj :=
fun P =>
  { cls := Value.type "frame",
    slots :=
      #[some (Value.ref 27), some (Value.ref 3), some (Value.ref 24), none,
        some (Value.str (Str.ofString "outlinemill.errors") 194), none, some (Value.ref 0)] }
noncomputable def ho66 : Params → Obj :=
fun P => { cls := Value.type "tuple", data := Data.seq #[] }
noncomputable def ho67 : Params → Obj :=
fun P => { cls := Value.none, data := Data.fields #[] }
noncomputable def ho68 : Params → Obj :=
fun P =>
  { cls := Value.type "tuple",
    data := Data.seq #[Value.str (Str.ofString "self") 211, Value.str (Str.ofString "message") 212] }
noncomputable def ho69 : Params → Obj :=
fun P => { cls := Value.type "tuple", data := Data.seq #[] }
noncomputable def ho70 : Params → Obj :=
fun P =>
  { cls := Value.none,
    data :=
      Data.func
        { name := Str.ofString "__init__", qualname := Str.ofString "MillError.__init__", params := (fA (at1 0 (cB (at1 2 topB)))),
          body := FuncBody.stmts (fB (at1 0 (cB (at1 2 topB)))), scope := (fS (at1 0 (cB (at1 2 topB)))), globals := 0, closure := [], defaults := Value.none,
          kwdefaults := Value.none } }
noncomputable def ho71 : Params → Obj :=
fun P =>
  { cls := Value.type "code",
    data :=
      Data.fields
        #[Value.str (Str.ofString "__init__") 208, Value.str (Str.ofString "MillError.__init__") 209,
          Value.str (Str.ofString "/claim/cut.py") 210, Value.int 7 0, Value.int 2 0, Value.int 0 0, Value.int 0 0,
          Value.int 3 0, Value.ref 29, Value.bool true, Value.int 181 0, Value.ref 30, Value.none, Value.ref 31,
          Value.ref 32, Value.ref 33, Value.int 213 0, Value.int 7 0, Value.str (Str.ofString "/claim/cut.py") 214] }
noncomputable def ho72 : Params → Obj :=
fun P =>
  { cls := Value.type "function",
    data :=
      Data.func
        { name := Str.ofString "__init__", qualname := Str.ofString "MillError.__init__", params := (fA (at1 0 (cB (at1 2 topB)))),
          body := FuncBody.stmts (fB (at1 0 (cB (at1 2 topB)))), scope := (fS (at1 0 (cB (at1 2 topB)))), globals := 3, closure := [], defaults := Value.none,
          kwdefaults := Value.none, pyModule := Value.str (Str.ofString "outlinemill.errors") 194,
          code := Value.ref 34 } }
noncomputable def ho73 : Params → Obj :=
fun P => { cls := Value.type "tuple", data := Data.seq #[Value.str (Str.ofString "message") 216] }
noncomputable def ho74 : Params → Obj :=
fun P =>
  { cls := Value.type "dict",
    data :=
      Data.dict
        #[{ hash := PyData.keyHash P (Str.ofString "__module__"), key := Value.str (Str.ofString "__module__") 203,
            val := Value.str (Str.ofString "outlinemill.errors") 194 },
          { hash := PyData.keyHash P (Str.ofString "__firstlineno__"),
            key := Value.str (Str.ofString "__firstlineno__") 207, val := Value.int 5 206 },
          { hash := PyData.keyHash P (Str.ofString "__init__"), key := Value.str (Str.ofString "__init__") 215,
            val := Value.ref 35 },
          { hash := PyData.keyHash P (Str.ofString "__static_attributes__"),
            key := Value.str (Str.ofString "__static_attributes__") 217, val := Value.ref 36 },
          { hash := PyData.keyHash P (Str.ofString "__weakref__"), key := Value.str (Str.ofString "__weakref__") 219,
            val := Value.ref 39 },
          { hash := PyData.keyHash P (Str.ofString "__doc__"), key := Value.str (Str.ofString "__doc__") 220,
            val := Value.none }]
        3 }
noncomputable def ho75 : Params → Obj :=
fun P =>
  { cls := Value.type "type",
    data :=
      Data.cls
        { name := Str.ofString "MillError", bases := [Value.type "Exception"],
          mro := [Value.ref 38, Value.type "Exception", Value.type "BaseException", Value.type "object"], ns := 37,
          qualname := Str.ofString "MillError" },
    slots :=
      #[some (Value.ref 22), none, some (Value.str (Str.ofString "MillError") 196),
        some (Value.str (Str.ofString "MillError") 204), some (Value.builtin "Exception.__new__"),
        some (Value.bool true)] }
noncomputable def ho76 : Params → Obj :=
fun P =>
  { cls := Value.type "getset_descriptor",
    data :=
      Data.fields
        #[Value.str (Str.ofString "__weakref__") 218, Value.ref 38, Value.builtin "ExceptionGroup.__weakref__",
          Value.none] }
noncomputable def ho77 : Params → Obj :=
fun P => { cls := Value.type "super", data := Data.fields #[Value.ref 38, Value.ref 38, Value.ref 38] }
noncomputable def ho78 : Params → Obj :=
fun P =>
  { cls := Value.type "builtin_function_or_method",
    data := Data.fields #[Value.builtin "object.__init_subclass__", Value.ref 38] }
noncomputable def ho79 : Params → Obj :=
fun P =>
  { cls := Value.type "dict",
    data :=
      Data.dict
        #[{ hash := PyData.keyHash P (Str.ofString "__name__"), key := Value.str (Str.ofString "__name__") 165,
            val := Value.str (Str.ofString "outlinemill.errors") 194 },
          { hash := PyData.keyHash P (Str.ofString "__doc__"), key := Value.str (Str.ofString "__doc__") 166,
            val := Value.none },
          { hash := PyData.keyHash P (Str.ofString "__package__"), key := Value.str (Str.ofString "__package__") 167,
            val := Value.none },
          { hash := PyData.keyHash P (Str.ofString "__loader__"), key := Value.str (Str.ofString "__loader__") 168,
            val := Value.builtin "__main__.__loader__#opaque" },
          { hash := PyData.keyHash P (Str.ofString "__spec__"), key := Value.str (Str.ofString "__spec__") 169,
            val := Value.none },
          { hash := PyData.keyHash P (Str.ofString "__annotations__"),
            key := Value.str (Str.ofString "__annotations__") 170, val := Value.ref 6 },
          { hash := PyData.keyHash P (Str.ofString "__builtins__"), key := Value.str (Str.ofString "__builtins__") 171,
            val := Value.ref 4 },
          { hash := PyData.keyHash P (Str.ofString "__file__"), key := Value.str (Str.ofString "__file__") 173,
            val := Value.str (Str.ofString "/claim/cut.py") 172 },
          { hash := PyData.keyHash P (Str.ofString "__cached__"), key := Value.str (Str.ofString "__cached__") 174,
            val := Value.none },
          { hash := PyData.keyHash P (Str.ofString "_wall"), key := Value.str (Str.ofString "_wall") 193,
            val := Value.ref 21 },
          { hash := PyData.keyHash P (Str.ofString "MillError"), key := Value.str (Str.ofString "MillError") 224,
            val := Value.ref 38 },
          { hash := PyData.keyHash P (Str.ofString "NumberFault"), key := Value.str (Str.ofString "NumberFault") 240,
            val := Value.ref 51 }]
        12 }
noncomputable def ho80 : Params → Obj :=
fun P =>
  { cls := Value.none,
    data :=
      Data.fields
        #[Value.int 1 0, Value.int 0 0, Value.ref 20, Value.int 5 0, Value.int 0 0, Value.ref 27, Value.int 9 0,
          Value.int 0 0, Value.ref 47] }
noncomputable def ho81 : Params → Obj :=
fun P =>
  { cls := Value.type "type",
    data :=
      Data.cls
        { name := Str.ofString "MillError", bases := [Value.type "Exception"],
          mro := [Value.ref 38, Value.type "Exception", Value.type "BaseException", Value.type "object"], ns := 37,
          qualname := Str.ofString "MillError", subclasses := [Value.ref 51] },
    slots :=
      #[some (Value.ref 22), none, some (Value.str (Str.ofString "MillError") 196),
        some (Value.str (Str.ofString "MillError") 204), some (Value.builtin "Exception.__new__"),
        some (Value.bool true)] }
noncomputable def ho82 : Params → Obj :=
fun P => { cls := Value.type "tuple", data := Data.seq #[Value.ref 38] }
noncomputable def ho83 : Params → Obj :=
fun P =>
  { cls := Value.type "builtin_function_or_method",
    data := Data.fields #[Value.builtin "type.__prepare__", Value.type "type"] }
noncomputable def ho84 : Params → Obj :=
fun P =>
  { cls := Value.type "dict",
    data :=
      Data.dict
        #[{ hash := PyData.keyHash P (Str.ofString "__module__"), key := Value.str (Str.ofString "__module__") 232,
            val := Value.str (Str.ofString "outlinemill.errors") 194 },
          { hash := PyData.keyHash P (Str.ofString "__qualname__"), key := Value.str (Str.ofString "__qualname__") 234,
            val := Value.str (Str.ofString "NumberFault") 233 },
          { hash := PyData.keyHash P (Str.ofString "__firstlineno__"),
            key := Value.str (Str.ofString "__firstlineno__") 236, val := Value.int 9 235 },
          { hash := PyData.keyHash P (Str.ofString "__static_attributes__"),
            key := Value.str (Str.ofString "__static_attributes__") 237, val := Value.ref 49 }]
        4 }
noncomputable def ho85 : Params → Obj :=
fun P => { cls := Value.type "tuple", data := Data.seq #[] }
noncomputable def ho86 : Params → Obj :=
fun P => { cls := Value.none, data := Data.fields #[] }
noncomputable def ho87 : Params → Obj :=
fun P =>
  { cls := Value.type "code",
    data :=
      Data.fields
        #[Value.str (Str.ofString "NumberFault") 227, Value.str (Str.ofString "NumberFault") 228,
          Value.str (Str.ofString "/claim/cut.py") 229, Value.int 9 0, Value.int 0 0, Value.int 0 0, Value.int 0 0,
          Value.int 0 0, Value.ref 45, Value.bool false, Value.int 181 0, Value.ref 46, Value.none, Value.none,
          Value.none, Value.none, Value.int 230 0, Value.int 9 0, Value.str (Str.ofString "/claim/cut.py") 231] }
noncomputable def ho88 : Params → Obj :=
fun P =>
  { cls := Value.type "frame",
    slots :=
      #[some (Value.ref 47), some (Value.ref 3), some (Value.ref 44), none,
        some (Value.str (Str.ofString "outlinemill.errors") 194), none, some (Value.ref 0)] }
noncomputable def ho89 : Params → Obj :=
fun P => { cls := Value.type "tuple", data := Data.seq #[] }
noncomputable def ho90 : Params → Obj :=
fun P =>
  { cls := Value.type "dict",
    data :=
      Data.dict
        #[{ hash := PyData.keyHash P (Str.ofString "__module__"), key := Value.str (Str.ofString "__module__") 232,
            val := Value.str (Str.ofString "outlinemill.errors") 194 },
          { hash := PyData.keyHash P (Str.ofString "__firstlineno__"),
            key := Value.str (Str.ofString "__firstlineno__") 236, val := Value.int 9 235 },
          { hash := PyData.keyHash P (Str.ofString "__static_attributes__"),
            key := Value.str (Str.ofString "__static_attributes__") 237, val := Value.ref 49 },
          { hash := PyData.keyHash P (Str.ofString "__doc__"), key := Value.str (Str.ofString "__doc__") 238,
            val := Value.none }]
        2 }
noncomputable def ho91 : Params → Obj :=
fun P =>
  { cls := Value.type "type",
    data :=
      Data.cls
        { name := Str.ofString "NumberFault", bases := [Value.ref 38],
          mro := [Value.ref 51, Value.ref 38, Value.type "Exception", Value.type "BaseException", Value.type "object"],
          ns := 50, qualname := Str.ofString "NumberFault" },
    slots :=
      #[some (Value.ref 42), none, some (Value.str (Str.ofString "NumberFault") 225),
        some (Value.str (Str.ofString "NumberFault") 233), some (Value.builtin "Exception.__new__"),
        some (Value.bool true)] }
noncomputable def ho92 : Params → Obj :=
fun P => { cls := Value.type "super", data := Data.fields #[Value.ref 51, Value.ref 51, Value.ref 51] }
noncomputable def ho93 : Params → Obj :=
fun P =>
  { cls := Value.type "builtin_function_or_method",
    data := Data.fields #[Value.builtin "object.__init_subclass__", Value.ref 51] }
noncomputable def ho94 : Params → Obj :=
fun P =>
  { cls := Value.type "dict",
    data :=
      Data.dict
        #[{ hash := PyData.keyHash P (Str.ofString "__name__"), key := Value.str (Str.ofString "__name__") 165,
            val := Value.str (Str.ofString "outlinemill.exact") 268 },
          { hash := PyData.keyHash P (Str.ofString "__doc__"), key := Value.str (Str.ofString "__doc__") 166,
            val := Value.none },
          { hash := PyData.keyHash P (Str.ofString "__package__"), key := Value.str (Str.ofString "__package__") 167,
            val := Value.none },
          { hash := PyData.keyHash P (Str.ofString "__loader__"), key := Value.str (Str.ofString "__loader__") 168,
            val := Value.builtin "__main__.__loader__#opaque" },
          { hash := PyData.keyHash P (Str.ofString "__spec__"), key := Value.str (Str.ofString "__spec__") 169,
            val := Value.none },
          { hash := PyData.keyHash P (Str.ofString "__annotations__"),
            key := Value.str (Str.ofString "__annotations__") 170, val := Value.ref 6 },
          { hash := PyData.keyHash P (Str.ofString "__builtins__"), key := Value.str (Str.ofString "__builtins__") 171,
            val := Value.ref 4 },
          { hash := PyData.keyHash P (Str.ofString "__file__"), key := Value.str (Str.ofString "__file__") 173,
            val := Value.str (Str.ofString "/claim/cut.py") 172 },
          { hash := PyData.keyHash P (Str.ofString "__cached__"), key := Value.str (Str.ofString "__cached__") 174,
            val := Value.none },
          { hash := PyData.keyHash P (Str.ofString "_wall"), key := Value.str (Str.ofString "_wall") 193,
            val := Value.ref 21 },
          { hash := PyData.keyHash P (Str.ofString "MillError"), key := Value.str (Str.ofString "MillError") 224,
            val := Value.ref 38 },
          { hash := PyData.keyHash P (Str.ofString "NumberFault"), key := Value.str (Str.ofString "NumberFault") 240,
            val := Value.ref 51 },
          { hash := PyData.keyHash P (Str.ofString "PathFault"), key := Value.str (Str.ofString "PathFault") 267,
            val := Value.ref 70 },
          { hash := PyData.keyHash P (Str.ofString "DIGITS_exact"), key := Value.str (Str.ofString "DIGITS_exact") 271,
            val := Value.str (Str.ofString "0123456789") 270 },
          { hash := PyData.keyHash P (Str.ofString "MOST_EXPONENT"),
            key := Value.str (Str.ofString "MOST_EXPONENT") 273, val := Value.int 300 272 },
          { hash := PyData.keyHash P (Str.ofString "MOST_FIGURES"), key := Value.str (Str.ofString "MOST_FIGURES") 275,
            val := Value.int 60 274 },
          { hash := PyData.keyHash P (Str.ofString "MOST_VALUE"), key := Value.str (Str.ofString "MOST_VALUE") 279,
            val := Value.int 1000000000000000000000000000000000000000000000000000000000000 278 },
          { hash := PyData.keyHash P (Str.ofString "common_divisor"),
            key := Value.str (Str.ofString "common_divisor") 289, val := Value.ref 79 },
          { hash := PyData.keyHash P (Str.ofString "fraction"), key := Value.str (Str.ofString "fraction") 299,
            val := Value.ref 87 }]
        19 }
noncomputable def ho95 : Params → Obj :=
fun P =>
  { cls := Value.none,
    data :=
      Data.fields
        #[Value.int 1 0, Value.int 0 0, Value.ref 20, Value.int 5 0, Value.int 0 0, Value.ref 27, Value.int 9 0,
          Value.int 0 0, Value.ref 47, Value.int 11 0, Value.int 0 0, Value.ref 59, Value.int 21 0, Value.int 0 0,
          Value.ref 78, Value.int 26 0, Value.int 0 0, Value.ref 86] }
noncomputable def ho96 : Params → Obj :=
fun P =>
  { cls := Value.type "type",
    data :=
      Data.cls
        { name := Str.ofString "MillError", bases := [Value.type "Exception"],
          mro := [Value.ref 38, Value.type "Exception", Value.type "BaseException", Value.type "object"], ns := 37,
          qualname := Str.ofString "MillError", subclasses := [Value.ref 51, Value.ref 70] },
    slots :=
      #[some (Value.ref 22), none, some (Value.str (Str.ofString "MillError") 196),
        some (Value.str (Str.ofString "MillError") 204), some (Value.builtin "Exception.__new__"),
        some (Value.bool true)] }
noncomputable def ho97 : Params → Obj :=
fun P => { cls := Value.type "tuple", data := Data.seq #[Value.ref 38] }
noncomputable def ho98 : Params → Obj :=
fun P =>
  { cls := Value.type "builtin_function_or_method",
    data := Data.fields #[Value.builtin "type.__prepare__", Value.type "type"] }
noncomputable def ho99 : Params → Obj :=
fun P =>
  { cls := Value.type "dict",
    data :=
      Data.dict
        #[{ hash := PyData.keyHash P (Str.ofString "__module__"), key := Value.str (Str.ofString "__module__") 248,
            val := Value.str (Str.ofString "outlinemill.errors") 194 },
          { hash := PyData.keyHash P (Str.ofString "__qualname__"), key := Value.str (Str.ofString "__qualname__") 250,
            val := Value.str (Str.ofString "PathFault") 249 },
          { hash := PyData.keyHash P (Str.ofString "__firstlineno__"),
            key := Value.str (Str.ofString "__firstlineno__") 252, val := Value.int 11 251 },
          { hash := PyData.keyHash P (Str.ofString "__init__"), key := Value.str (Str.ofString "__init__") 261,
            val := Value.ref 67 },
          { hash := PyData.keyHash P (Str.ofString "__static_attributes__"),
            key := Value.str (Str.ofString "__static_attributes__") 264, val := Value.ref 68 }]
        5 }
noncomputable def ho100 : Params → Obj :=
fun P => { cls := Value.type "tuple", data := Data.seq #[] }
noncomputable def ho101 : Params → Obj :=
fun P => { cls := Value.none, data := Data.fields #[Value.int 13 0, Value.int 4 0, Value.ref 66] }
noncomputable def ho102 : Params → Obj :=
fun P =>
  { cls := Value.type "code",
    data :=
      Data.fields
        #[Value.str (Str.ofString "PathFault") 243, Value.str (Str.ofString "PathFault") 244,
          Value.str (Str.ofString "/claim/cut.py") 245, Value.int 11 0, Value.int 0 0, Value.int 0 0, Value.int 0 0,
          Value.int 0 0, Value.ref 57, Value.bool false, Value.int 181 0, Value.ref 58, Value.none, Value.none,
          Value.none, Value.none, Value.int 246 0, Value.int 11 0, Value.str (Str.ofString "/claim/cut.py") 247] }
noncomputable def ho103 : Params → Obj :=
fun P =>
  { cls := Value.type "frame",
    slots :=
      #[some (Value.ref 59), some (Value.ref 3), some (Value.ref 56), none,
        some (Value.str (Str.ofString "outlinemill.errors") 194), none, some (Value.ref 0)] }
noncomputable def ho104 : Params → Obj :=
fun P => { cls := Value.type "tuple", data := Data.seq #[] }
noncomputable def ho105 : Params → Obj :=
fun P => { cls := Value.none, data := Data.fields #[] }
noncomputable def ho106 : Params → Obj :=
fun P =>
  { cls := Value.type "tuple",
    data :=
      Data.seq
        #[Value.str (Str.ofString "self") 256, Value.str (Str.ofString "message") 257,
          Value.str (Str.ofString "place") 258] }
noncomputable def ho107 : Params → Obj :=
fun P => { cls := Value.type "tuple", data := Data.seq #[] }
noncomputable def ho108 : Params → Obj :=
fun P =>
  { cls := Value.none,
    data :=
      Data.func
        { name := Str.ofString "__init__", qualname := Str.ofString "PathFault.__init__", params := (fA (at1 0 (cB (at1 4 topB)))),
          body := FuncBody.stmts (fB (at1 0 (cB (at1 4 topB)))), scope := (fS (at1 0 (cB (at1 4 topB)))), globals := 0, closure := [], defaults := Value.none,
          kwdefaults := Value.none } }
noncomputable def ho109 : Params → Obj :=
fun P =>
  { cls := Value.type "code",
    data :=
      Data.fields
        #[Value.str (Str.ofString "__init__") 253, Value.str (Str.ofString "PathFault.__init__") 254,
          Value.str (Str.ofString "/claim/cut.py") 255, Value.int 13 0, Value.int 3 0, Value.int 0 0, Value.int 0 0,
          Value.int 3 0, Value.ref 61, Value.bool true, Value.int 181 0, Value.ref 62, Value.none, Value.ref 63,
          Value.ref 64, Value.ref 65, Value.int 259 0, Value.int 13 0, Value.str (Str.ofString "/claim/cut.py") 260] }
noncomputable def ho110 : Params → Obj :=
fun P =>
  { cls := Value.type "function",
    data :=
      Data.func
        { name := Str.ofString "__init__", qualname := Str.ofString "PathFault.__init__", params := (fA (at1 0 (cB (at1 4 topB)))),
          body := FuncBody.stmts (fB (at1 0 (cB (at1 4 topB)))), scope := (fS (at1 0 (cB (at1 4 topB)))), globals := 3, closure := [], defaults := Value.none,
          kwdefaults := Value.none, pyModule := Value.str (Str.ofString "outlinemill.errors") 194,
          code := Value.ref 66 } }
noncomputable def ho111 : Params → Obj :=
fun P =>
  { cls := Value.type "tuple",
    data := Data.seq #[Value.str (Str.ofString "message") 262, Value.str (Str.ofString "place") 263] }
noncomputable def ho112 : Params → Obj :=
fun P =>
  { cls := Value.type "dict",
    data :=
      Data.dict
        #[{ hash := PyData.keyHash P (Str.ofString "__module__"), key := Value.str (Str.ofString "__module__") 248,
            val := Value.str (Str.ofString "outlinemill.errors") 194 },
          { hash := PyData.keyHash P (Str.ofString "__firstlineno__"),
            key := Value.str (Str.ofString "__firstlineno__") 252, val := Value.int 11 251 },
          { hash := PyData.keyHash P (Str.ofString "__init__"), key := Value.str (Str.ofString "__init__") 261,
            val := Value.ref 67 },
          { hash := PyData.keyHash P (Str.ofString "__static_attributes__"),
            key := Value.str (Str.ofString "__static_attributes__") 264, val := Value.ref 68 },
          { hash := PyData.keyHash P (Str.ofString "__doc__"), key := Value.str (Str.ofString "__doc__") 265,
            val := Value.none }]
        2 }
noncomputable def ho113 : Params → Obj :=
fun P =>
  { cls := Value.type "type",
    data :=
      Data.cls
        { name := Str.ofString "PathFault", bases := [Value.ref 38],
          mro := [Value.ref 70, Value.ref 38, Value.type "Exception", Value.type "BaseException", Value.type "object"],
          ns := 69, qualname := Str.ofString "PathFault" },
    slots :=
      #[some (Value.ref 54), none, some (Value.str (Str.ofString "PathFault") 241),
        some (Value.str (Str.ofString "PathFault") 249), some (Value.builtin "Exception.__new__"),
        some (Value.bool true)] }
noncomputable def ho114 : Params → Obj :=
fun P => { cls := Value.type "super", data := Data.fields #[Value.ref 70, Value.ref 70, Value.ref 70] }
noncomputable def ho115 : Params → Obj :=
fun P =>
  { cls := Value.type "builtin_function_or_method",
    data := Data.fields #[Value.builtin "object.__init_subclass__", Value.ref 70] }
noncomputable def ho116 : Params → Obj :=
fun P => { cls := Value.type "tuple", data := Data.seq #[] }
noncomputable def ho117 : Params → Obj :=
fun P => { cls := Value.none, data := Data.fields #[] }
noncomputable def ho118 : Params → Obj :=
fun P =>
  { cls := Value.type "tuple",
    data :=
      Data.seq
        #[Value.str (Str.ofString "one") 283, Value.str (Str.ofString "other") 284,
          Value.str (Str.ofString "first") 285, Value.str (Str.ofString "second") 286] }
noncomputable def ho119 : Params → Obj :=
fun P => { cls := Value.type "tuple", data := Data.seq #[] }
noncomputable def ho120 : Params → Obj :=
fun P =>
  { cls := Value.none,
    data :=
      Data.func
        { name := Str.ofString "common_divisor", qualname := Str.ofString "common_divisor", params := (fA (at1 10 topB)),
          body := FuncBody.stmts (fB (at1 10 topB)), scope := (fS (at1 10 topB)), globals := 0, closure := [], defaults := Value.none,
          kwdefaults := Value.none } }
noncomputable def ho121 : Params → Obj :=
fun P =>
  { cls := Value.type "code",
    data :=
      Data.fields
        #[Value.str (Str.ofString "common_divisor") 280, Value.str (Str.ofString "common_divisor") 281,
          Value.str (Str.ofString "/claim/cut.py") 282, Value.int 21 0, Value.int 2 0, Value.int 0 0, Value.int 0 0,
          Value.int 3 0, Value.ref 73, Value.bool true, Value.int 181 0, Value.ref 74, Value.none, Value.ref 75,
          Value.ref 76, Value.ref 77, Value.int 287 0, Value.int 21 0, Value.str (Str.ofString "/claim/cut.py") 288] }
noncomputable def ho122 : Params → Obj :=
fun P =>
  { cls := Value.type "function",
    data :=
      Data.func
        { name := Str.ofString "common_divisor", qualname := Str.ofString "common_divisor", params := (fA (at1 10 topB)),
          body := FuncBody.stmts (fB (at1 10 topB)), scope := (fS (at1 10 topB)), globals := 3, closure := [], defaults := Value.none,
          kwdefaults := Value.none, pyModule := Value.str (Str.ofString "outlinemill.exact") 268,
          code := Value.ref 78 } }
noncomputable def ho123 : Params → Obj :=
fun P => { cls := Value.type "tuple", data := Data.seq #[Value.int 1 290] }
noncomputable def ho124 : Params → Obj :=
fun P => { cls := Value.type "tuple", data := Data.seq #[] }
noncomputable def ho125 : Params → Obj :=
fun P => { cls := Value.none, data := Data.fields #[] }
noncomputable def ho126 : Params → Obj :=
fun P =>
  { cls := Value.type "tuple",
    data :=
      Data.seq
        #[Value.str (Str.ofString "top") 294, Value.str (Str.ofString "bottom") 295,
          Value.str (Str.ofString "common") 296] }
noncomputable def ho127 : Params → Obj :=
fun P => { cls := Value.type "tuple", data := Data.seq #[] }
noncomputable def ho128 : Params → Obj :=
fun P =>
  { cls := Value.none,
    data :=
      Data.func
        { name := Str.ofString "fraction", qualname := Str.ofString "fraction", params := (fA (at1 11 topB)),
          body := FuncBody.stmts (fB (at1 11 topB)), scope := (fS (at1 11 topB)), globals := 0, closure := [], defaults := Value.none,
          kwdefaults := Value.none } }
noncomputable def ho129 : Params → Obj :=
fun P =>
  { cls := Value.type "code",
    data :=
      Data.fields
        #[Value.str (Str.ofString "fraction") 291, Value.str (Str.ofString "fraction") 292,
          Value.str (Str.ofString "/claim/cut.py") 293, Value.int 26 0, Value.int 2 0, Value.int 0 0, Value.int 0 0,
          Value.int 3 0, Value.ref 81, Value.bool true, Value.int 181 0, Value.ref 82, Value.none, Value.ref 83,
          Value.ref 84, Value.ref 85, Value.int 297 0, Value.int 26 0, Value.str (Str.ofString "/claim/cut.py") 298] }
noncomputable def ho130 : Params → Obj :=
fun P =>
  { cls := Value.type "function",
    data :=
      Data.func
        { name := Str.ofString "fraction", qualname := Str.ofString "fraction", params := (fA (at1 11 topB)),
          body := FuncBody.stmts (fB (at1 11 topB)), scope := (fS (at1 11 topB)), globals := 3, closure := [], defaults := Value.ref 80,
          kwdefaults := Value.none, pyModule := Value.str (Str.ofString "outlinemill.exact") 268,
          code := Value.ref 86 } }
noncomputable def ho131 : Params → Obj :=
fun P =>
  { cls := Value.type "dict",
    data :=
      Data.dict
        #[{ hash := PyData.keyHash P (Str.ofString "__name__"), key := Value.str (Str.ofString "__name__") 165,
            val := Value.str (Str.ofString "outlinemill.exact") 268 },
          { hash := PyData.keyHash P (Str.ofString "__doc__"), key := Value.str (Str.ofString "__doc__") 166,
            val := Value.none },
          { hash := PyData.keyHash P (Str.ofString "__package__"), key := Value.str (Str.ofString "__package__") 167,
            val := Value.none },
          { hash := PyData.keyHash P (Str.ofString "__loader__"), key := Value.str (Str.ofString "__loader__") 168,
            val := Value.builtin "__main__.__loader__#opaque" },
          { hash := PyData.keyHash P (Str.ofString "__spec__"), key := Value.str (Str.ofString "__spec__") 169,
            val := Value.none },
          { hash := PyData.keyHash P (Str.ofString "__annotations__"),
            key := Value.str (Str.ofString "__annotations__") 170, val := Value.ref 6 },
          { hash := PyData.keyHash P (Str.ofString "__builtins__"), key := Value.str (Str.ofString "__builtins__") 171,
            val := Value.ref 4 },
          { hash := PyData.keyHash P (Str.ofString "__file__"), key := Value.str (Str.ofString "__file__") 173,
            val := Value.str (Str.ofString "/claim/cut.py") 172 },
          { hash := PyData.keyHash P (Str.ofString "__cached__"), key := Value.str (Str.ofString "__cached__") 174,
            val := Value.none },
          { hash := PyData.keyHash P (Str.ofString "_wall"), key := Value.str (Str.ofString "_wall") 193,
            val := Value.ref 21 },
          { hash := PyData.keyHash P (Str.ofString "MillError"), key := Value.str (Str.ofString "MillError") 224,
            val := Value.ref 38 },
          { hash := PyData.keyHash P (Str.ofString "NumberFault"), key := Value.str (Str.ofString "NumberFault") 240,
            val := Value.ref 51 },
          { hash := PyData.keyHash P (Str.ofString "PathFault"), key := Value.str (Str.ofString "PathFault") 267,
            val := Value.ref 70 },
          { hash := PyData.keyHash P (Str.ofString "DIGITS_exact"), key := Value.str (Str.ofString "DIGITS_exact") 271,
            val := Value.str (Str.ofString "0123456789") 270 },
          { hash := PyData.keyHash P (Str.ofString "MOST_EXPONENT"),
            key := Value.str (Str.ofString "MOST_EXPONENT") 273, val := Value.int 300 272 },
          { hash := PyData.keyHash P (Str.ofString "MOST_FIGURES"), key := Value.str (Str.ofString "MOST_FIGURES") 275,
            val := Value.int 60 274 },
          { hash := PyData.keyHash P (Str.ofString "MOST_VALUE"), key := Value.str (Str.ofString "MOST_VALUE") 279,
            val := Value.int 1000000000000000000000000000000000000000000000000000000000000 278 },
          { hash := PyData.keyHash P (Str.ofString "common_divisor"),
            key := Value.str (Str.ofString "common_divisor") 289, val := Value.ref 79 },
          { hash := PyData.keyHash P (Str.ofString "fraction"), key := Value.str (Str.ofString "fraction") 299,
            val := Value.ref 87 },
          { hash := PyData.keyHash P (Str.ofString "NumberText"), key := Value.str (Str.ofString "NumberText") 353,
            val := Value.ref 125 },
          { hash := PyData.keyHash P (Str.ofString "whole_of"), key := Value.str (Str.ofString "whole_of") 362,
            val := Value.ref 136 },
          { hash := PyData.keyHash P (Str.ofString "read_exponent"),
            key := Value.str (Str.ofString "read_exponent") 371, val := Value.ref 143 }]
        22 }
noncomputable def ho132 : Params → Obj :=
fun P =>
  { cls := Value.none,
    data :=
      Data.fields
        #[Value.int 1 0, Value.int 0 0, Value.ref 20, Value.int 5 0, Value.int 0 0, Value.ref 27, Value.int 9 0,
          Value.int 0 0, Value.ref 47, Value.int 11 0, Value.int 0 0, Value.ref 59, Value.int 21 0, Value.int 0 0,
          Value.ref 78, Value.int 26 0, Value.int 0 0, Value.ref 86, Value.int 33 0, Value.int 0 0, Value.ref 93,
          Value.int 53 0, Value.int 0 0, Value.ref 135, Value.int 58 0, Value.int 0 0, Value.ref 142] }
noncomputable def ho133 : Params → Obj :=
fun P => { cls := Value.type "tuple", data := Data.seq #[] }
noncomputable def ho134 : Params → Obj :=
fun P =>
  { cls := Value.type "builtin_function_or_method",
    data := Data.fields #[Value.builtin "type.__prepare__", Value.type "type"] }
noncomputable def ho135 : Params → Obj :=
fun P =>
  { cls := Value.type "dict",
    data :=
      Data.dict
        #[{ hash := PyData.keyHash P (Str.ofString "__module__"), key := Value.str (Str.ofString "__module__") 307,
            val := Value.str (Str.ofString "outlinemill.exact") 268 },
          { hash := PyData.keyHash P (Str.ofString "__qualname__"), key := Value.str (Str.ofString "__qualname__") 309,
            val := Value.str (Str.ofString "NumberText") 308 },
          { hash := PyData.keyHash P (Str.ofString "__firstlineno__"),
            key := Value.str (Str.ofString "__firstlineno__") 311, val := Value.int 33 310 },
          { hash := PyData.keyHash P (Str.ofString "__init__"), key := Value.str (Str.ofString "__init__") 319,
            val := Value.ref 101 },
          { hash := PyData.keyHash P (Str.ofString "is_one_of"), key := Value.str (Str.ofString "is_one_of") 327,
            val := Value.ref 108 },
          { hash := PyData.keyHash P (Str.ofString "skip"), key := Value.str (Str.ofString "skip") 335,
            val := Value.ref 115 },
          { hash := PyData.keyHash P (Str.ofString "digits"), key := Value.str (Str.ofString "digits") 343,
            val := Value.ref 122 },
          { hash := PyData.keyHash P (Str.ofString "__static_attributes__"),
            key := Value.str (Str.ofString "__static_attributes__") 346, val := Value.ref 123 }]
        8 }
noncomputable def ho136 : Params → Obj :=
fun P => { cls := Value.type "tuple", data := Data.seq #[] }
noncomputable def ho137 : Params → Obj :=
fun P =>
  { cls := Value.none,
    data :=
      Data.fields
        #[Value.int 35 0, Value.int 4 0, Value.ref 100, Value.int 39 0, Value.int 4 0, Value.ref 107, Value.int 42 0,
          Value.int 4 0, Value.ref 114, Value.int 48 0, Value.int 4 0, Value.ref 121] }
noncomputable def ho138 : Params → Obj :=
fun P =>
  { cls := Value.type "code",
    data :=
      Data.fields
        #[Value.str (Str.ofString "NumberText") 302, Value.str (Str.ofString "NumberText") 303,
          Value.str (Str.ofString "/claim/cut.py") 304, Value.int 33 0, Value.int 0 0, Value.int 0 0, Value.int 0 0,
          Value.int 0 0, Value.ref 91, Value.bool false, Value.int 181 0, Value.ref 92, Value.none, Value.none,
          Value.none, Value.none, Value.int 305 0, Value.int 33 0, Value.str (Str.ofString "/claim/cut.py") 306] }
noncomputable def ho139 : Params → Obj :=
fun P =>
  { cls := Value.type "frame",
    slots :=
      #[some (Value.ref 93), some (Value.ref 3), some (Value.ref 90), none,
        some (Value.str (Str.ofString "outlinemill.exact") 268), none, some (Value.ref 0)] }
noncomputable def ho140 : Params → Obj :=
fun P => { cls := Value.type "tuple", data := Data.seq #[] }
noncomputable def ho141 : Params → Obj :=
fun P => { cls := Value.none, data := Data.fields #[] }
noncomputable def ho142 : Params → Obj :=
fun P =>
  { cls := Value.type "tuple",
    data := Data.seq #[Value.str (Str.ofString "self") 315, Value.str (Str.ofString "text") 316] }
noncomputable def ho143 : Params → Obj :=
fun P => { cls := Value.type "tuple", data := Data.seq #[] }
noncomputable def ho144 : Params → Obj :=
fun P =>
  { cls := Value.none,
    data :=
      Data.func
        { name := Str.ofString "__init__", qualname := Str.ofString "NumberText.__init__", params := (fA (at1 0 (cB (at1 12 topB)))),
          body := FuncBody.stmts (fB (at1 0 (cB (at1 12 topB)))), scope := (fS (at1 0 (cB (at1 19 topB)))), globals := 0, closure := [], defaults := Value.none,
          kwdefaults := Value.none } }
noncomputable def ho145 : Params → Obj :=
fun P =>
  { cls := Value.type "code",
    data :=
      Data.fields
        #[Value.str (Str.ofString "__init__") 312, Value.str (Str.ofString "NumberText.__init__") 313,
          Value.str (Str.ofString "/claim/cut.py") 314, Value.int 35 0, Value.int 2 0, Value.int 0 0, Value.int 0 0,
          Value.int 3 0, Value.ref 95, Value.bool true, Value.int 181 0, Value.ref 96, Value.none, Value.ref 97,
          Value.ref 98, Value.ref 99, Value.int 317 0, Value.int 35 0, Value.str (Str.ofString "/claim/cut.py") 318] }
noncomputable def ho146 : Params → Obj :=
fun P =>
  { cls := Value.type "function",
    data :=
      Data.func
        { name := Str.ofString "__init__", qualname := Str.ofString "NumberText.__init__", params := (fA (at1 0 (cB (at1 12 topB)))),
          body := FuncBody.stmts (fB (at1 0 (cB (at1 12 topB)))), scope := (fS (at1 0 (cB (at1 19 topB)))), globals := 3, closure := [], defaults := Value.none,
          kwdefaults := Value.none, pyModule := Value.str (Str.ofString "outlinemill.exact") 268,
          code := Value.ref 100 } }
noncomputable def ho147 : Params → Obj :=
fun P => { cls := Value.type "tuple", data := Data.seq #[] }
noncomputable def ho148 : Params → Obj :=
fun P => { cls := Value.none, data := Data.fields #[] }
noncomputable def ho149 : Params → Obj :=
fun P =>
  { cls := Value.type "tuple",
    data := Data.seq #[Value.str (Str.ofString "self") 323, Value.str (Str.ofString "signs") 324] }
noncomputable def ho150 : Params → Obj :=
fun P => { cls := Value.type "tuple", data := Data.seq #[] }
noncomputable def ho151 : Params → Obj :=
fun P =>
  { cls := Value.none,
    data :=
      Data.func
        { name := Str.ofString "is_one_of", qualname := Str.ofString "NumberText.is_one_of", params := (fA (at1 1 (cB (at1 12 topB)))),
          body := FuncBody.stmts (fB (at1 1 (cB (at1 12 topB)))), scope := (fS (at1 1 (cB (at1 12 topB)))), globals := 0, closure := [], defaults := Value.none,
          kwdefaults := Value.none } }
noncomputable def ho152 : Params → Obj :=
fun P =>
  { cls := Value.type "code",
    data :=
      Data.fields
        #[Value.str (Str.ofString "is_one_of") 320, Value.str (Str.ofString "NumberText.is_one_of") 321,
          Value.str (Str.ofString "/claim/cut.py") 322, Value.int 39 0, Value.int 2 0, Value.int 0 0, Value.int 0 0,
          Value.int 3 0, Value.ref 102, Value.bool true, Value.int 181 0, Value.ref 103, Value.none, Value.ref 104,
          Value.ref 105, Value.ref 106, Value.int 325 0, Value.int 39 0, Value.str (Str.ofString "/claim/cut.py") 326] }
noncomputable def ho153 : Params → Obj :=
fun P =>
  { cls := Value.type "function",
    data :=
      Data.func
        { name := Str.ofString "is_one_of", qualname := Str.ofString "NumberText.is_one_of", params := (fA (at1 1 (cB (at1 12 topB)))),
          body := FuncBody.stmts (fB (at1 1 (cB (at1 12 topB)))), scope := (fS (at1 1 (cB (at1 12 topB)))), globals := 3, closure := [], defaults := Value.none,
          kwdefaults := Value.none, pyModule := Value.str (Str.ofString "outlinemill.exact") 268,
          code := Value.ref 107 } }
noncomputable def ho154 : Params → Obj :=
fun P => { cls := Value.type "tuple", data := Data.seq #[] }
noncomputable def ho155 : Params → Obj :=
fun P => { cls := Value.none, data := Data.fields #[] }
noncomputable def ho156 : Params → Obj :=
fun P =>
  { cls := Value.type "tuple",
    data := Data.seq #[Value.str (Str.ofString "self") 331, Value.str (Str.ofString "signs") 332] }
noncomputable def ho157 : Params → Obj :=
fun P => { cls := Value.type "tuple", data := Data.seq #[] }
noncomputable def ho158 : Params → Obj :=
fun P =>
  { cls := Value.none,
    data :=
      Data.func
        { name := Str.ofString "skip", qualname := Str.ofString "NumberText.skip", params := (fA (at1 2 (cB (at1 12 topB)))),
          body := FuncBody.stmts (fB (at1 2 (cB (at1 12 topB)))), scope := (fS (at1 2 (cB (at1 12 topB)))), globals := 0, closure := [], defaults := Value.none,
          kwdefaults := Value.none } }
noncomputable def ho159 : Params → Obj :=
fun P =>
  { cls := Value.type "code",
    data :=
      Data.fields
        #[Value.str (Str.ofString "skip") 328, Value.str (Str.ofString "NumberText.skip") 329,
          Value.str (Str.ofString "/claim/cut.py") 330, Value.int 42 0, Value.int 2 0, Value.int 0 0, Value.int 0 0,
          Value.int 3 0, Value.ref 109, Value.bool true, Value.int 181 0, Value.ref 110, Value.none, Value.ref 111,
          Value.ref 112, Value.ref 113, Value.int 333 0, Value.int 42 0, Value.str (Str.ofString "/claim/cut.py") 334] }
noncomputable def ho160 : Params → Obj :=
fun P =>
  { cls := Value.type "function",
    data :=
      Data.func
        { name := Str.ofString "skip", qualname := Str.ofString "NumberText.skip", params := (fA (at1 2 (cB (at1 12 topB)))),
          body := FuncBody.stmts (fB (at1 2 (cB (at1 12 topB)))), scope := (fS (at1 2 (cB (at1 12 topB)))), globals := 3, closure := [], defaults := Value.none,
          kwdefaults := Value.none, pyModule := Value.str (Str.ofString "outlinemill.exact") 268,
          code := Value.ref 114 } }
noncomputable def ho161 : Params → Obj :=
fun P => { cls := Value.type "tuple", data := Data.seq #[] }
noncomputable def ho162 : Params → Obj :=
fun P => { cls := Value.none, data := Data.fields #[] }
noncomputable def ho163 : Params → Obj :=
fun P =>
  { cls := Value.type "tuple",
    data := Data.seq #[Value.str (Str.ofString "self") 339, Value.str (Str.ofString "begin") 340] }
noncomputable def ho164 : Params → Obj :=
fun P => { cls := Value.type "tuple", data := Data.seq #[] }
noncomputable def ho165 : Params → Obj :=
fun P =>
  { cls := Value.none,
    data :=
      Data.func
        { name := Str.ofString "digits", qualname := Str.ofString "NumberText.digits", params := (fA (at1 3 (cB (at1 12 topB)))),
          body := FuncBody.stmts (fB (at1 3 (cB (at1 12 topB)))), scope := (fS (at1 3 (cB (at1 12 topB)))), globals := 0, closure := [], defaults := Value.none,
          kwdefaults := Value.none } }
noncomputable def ho166 : Params → Obj :=
fun P =>
  { cls := Value.type "code",
    data :=
      Data.fields
        #[Value.str (Str.ofString "digits") 336, Value.str (Str.ofString "NumberText.digits") 337,
          Value.str (Str.ofString "/claim/cut.py") 338, Value.int 48 0, Value.int 1 0, Value.int 0 0, Value.int 0 0,
          Value.int 3 0, Value.ref 116, Value.bool true, Value.int 181 0, Value.ref 117, Value.none, Value.ref 118,
          Value.ref 119, Value.ref 120, Value.int 341 0, Value.int 48 0, Value.str (Str.ofString "/claim/cut.py") 342] }
noncomputable def ho167 : Params → Obj :=
fun P =>
  { cls := Value.type "function",
    data :=
      Data.func
        { name := Str.ofString "digits", qualname := Str.ofString "NumberText.digits", params := (fA (at1 3 (cB (at1 12 topB)))),
          body := FuncBody.stmts (fB (at1 3 (cB (at1 12 topB)))), scope := (fS (at1 3 (cB (at1 12 topB)))), globals := 3, closure := [], defaults := Value.none,
          kwdefaults := Value.none, pyModule := Value.str (Str.ofString "outlinemill.exact") 268,
          code := Value.ref 121 } }
noncomputable def ho168 : Params → Obj :=
fun P =>
  { cls := Value.type "tuple",
    data := Data.seq #[Value.str (Str.ofString "at") 344, Value.str (Str.ofString "text") 345] }
noncomputable def ho169 : Params → Obj :=
fun P =>
  { cls := Value.type "dict",
    data :=
      Data.dict
        #[{ hash := PyData.keyHash P (Str.ofString "__module__"), key := Value.str (Str.ofString "__module__") 307,
            val := Value.str (Str.ofString "outlinemill.exact") 268 },
          { hash := PyData.keyHash P (Str.ofString "__firstlineno__"),
            key := Value.str (Str.ofString "__firstlineno__") 311, val := Value.int 33 310 },
          { hash := PyData.keyHash P (Str.ofString "__init__"), key := Value.str (Str.ofString "__init__") 319,
            val := Value.ref 101 },
          { hash := PyData.keyHash P (Str.ofString "is_one_of"), key := Value.str (Str.ofString "is_one_of") 327,
            val := Value.ref 108 },
          { hash := PyData.keyHash P (Str.ofString "skip"), key := Value.str (Str.ofString "skip") 335,
            val := Value.ref 115 },
          { hash := PyData.keyHash P (Str.ofString "digits"), key := Value.str (Str.ofString "digits") 343,
            val := Value.ref 122 },
          { hash := PyData.keyHash P (Str.ofString "__static_attributes__"),
            key := Value.str (Str.ofString "__static_attributes__") 346, val := Value.ref 123 },
          { hash := PyData.keyHash P (Str.ofString "__dict__"), key := Value.str (Str.ofString "__dict__") 348,
            val := Value.ref 126 },
          { hash := PyData.keyHash P (Str.ofString "__weakref__"), key := Value.str (Str.ofString "__weakref__") 350,
            val := Value.ref 127 },
          { hash := PyData.keyHash P (Str.ofString "__doc__"), key := Value.str (Str.ofString "__doc__") 351,
            val := Value.none }]
        4 }
noncomputable def ho170 : Params → Obj :=
fun P =>
  { cls := Value.type "type",
    data :=
      Data.cls
        { name := Str.ofString "NumberText", bases := [Value.type "object"],
          mro := [Value.ref 125, Value.type "object"], ns := 124, qualname := Str.ofString "NumberText" },
    slots :=
      #[none, none, some (Value.str (Str.ofString "NumberText") 300), some (Value.str (Str.ofString "NumberText") 308),
        some (Value.builtin "object.__new__"), some (Value.bool true)] }
noncomputable def ho171 : Params → Obj :=
fun P =>
  { cls := Value.type "getset_descriptor",
    data :=
      Data.fields
        #[Value.str (Str.ofString "__dict__") 347, Value.ref 125, Value.builtin "function.__dict__",
          Value.builtin "function.__dict__#set"] }
noncomputable def ho172 : Params → Obj :=
fun P =>
  { cls := Value.type "getset_descriptor",
    data :=
      Data.fields
        #[Value.str (Str.ofString "__weakref__") 349, Value.ref 125, Value.builtin "ExceptionGroup.__weakref__",
          Value.none] }
noncomputable def ho173 : Params → Obj :=
fun P => { cls := Value.type "super", data := Data.fields #[Value.ref 125, Value.ref 125, Value.ref 125] }
noncomputable def ho174 : Params → Obj :=
fun P =>
  { cls := Value.type "builtin_function_or_method",
    data := Data.fields #[Value.builtin "object.__init_subclass__", Value.ref 125] }
noncomputable def ho175 : Params → Obj :=
fun P => { cls := Value.type "tuple", data := Data.seq #[] }
noncomputable def ho176 : Params → Obj :=
fun P => { cls := Value.none, data := Data.fields #[] }
noncomputable def ho177 : Params → Obj :=
fun P =>
  { cls := Value.type "tuple",
    data :=
      Data.seq
        #[Value.str (Str.ofString "digits") 357, Value.str (Str.ofString "number") 358,
          Value.str (Str.ofString "digit") 359] }
noncomputable def ho178 : Params → Obj :=
fun P => { cls := Value.type "tuple", data := Data.seq #[] }
noncomputable def ho179 : Params → Obj :=
fun P =>
  { cls := Value.none,
    data :=
      Data.func
        { name := Str.ofString "whole_of", qualname := Str.ofString "whole_of", params := (fA (at1 13 topB)),
          body := FuncBody.stmts (fB (at1 13 topB)), scope := (fS (at1 13 topB)), globals := 0, closure := [], defaults := Value.none,
          kwdefaults := Value.none } }
noncomputable def ho180 : Params → Obj :=
fun P =>
  { cls := Value.type "code",
    data :=
      Data.fields
        #[Value.str (Str.ofString "whole_of") 354, Value.str (Str.ofString "whole_of") 355,
          Value.str (Str.ofString "/claim/cut.py") 356, Value.int 53 0, Value.int 1 0, Value.int 0 0, Value.int 0 0,
          Value.int 3 0, Value.ref 130, Value.bool true, Value.int 181 0, Value.ref 131, Value.none, Value.ref 132,
          Value.ref 133, Value.ref 134, Value.int 360 0, Value.int 53 0, Value.str (Str.ofString "/claim/cut.py") 361] }
noncomputable def ho181 : Params → Obj :=
fun P =>
  { cls := Value.type "function",
    data :=
      Data.func
        { name := Str.ofString "whole_of", qualname := Str.ofString "whole_of", params := (fA (at1 13 topB)),
          body := FuncBody.stmts (fB (at1 13 topB)), scope := (fS (at1 13 topB)), globals := 3, closure := [], defaults := Value.none,
          kwdefaults := Value.none, pyModule := Value.str (Str.ofString "outlinemill.exact") 268,
          code := Value.ref 135 } }
noncomputable def ho182 : Params → Obj :=
fun P => { cls := Value.type "tuple", data := Data.seq #[] }
noncomputable def ho183 : Params → Obj :=
fun P => { cls := Value.none, data := Data.fields #[] }
noncomputable def ho184 : Params → Obj :=
fun P =>
  { cls := Value.type "tuple",
    data :=
      Data.seq
        #[Value.str (Str.ofString "reader") 366, Value.str (Str.ofString "sign") 367,
          Value.str (Str.ofString "digits") 368] }
noncomputable def ho185 : Params → Obj :=
fun P => { cls := Value.type "tuple", data := Data.seq #[] }
noncomputable def ho186 : Params → Obj :=
fun P =>
  { cls := Value.none,
    data :=
      Data.func
        { name := Str.ofString "read_exponent", qualname := Str.ofString "read_exponent", params := (fA (at1 14 topB)),
          body := FuncBody.stmts (fB (at1 14 topB)), scope := (fS (at1 14 topB)), globals := 0, closure := [], defaults := Value.none,
          kwdefaults := Value.none } }
noncomputable def ho187 : Params → Obj :=
fun P =>
  { cls := Value.type "code",
    data :=
      Data.fields
        #[Value.str (Str.ofString "read_exponent") 363, Value.str (Str.ofString "read_exponent") 364,
          Value.str (Str.ofString "/claim/cut.py") 365, Value.int 58 0, Value.int 1 0, Value.int 0 0, Value.int 0 0,
          Value.int 3 0, Value.ref 137, Value.bool true, Value.int 181 0, Value.ref 138, Value.none, Value.ref 139,
          Value.ref 140, Value.ref 141, Value.int 369 0, Value.int 58 0, Value.str (Str.ofString "/claim/cut.py") 370] }
noncomputable def ho188 : Params → Obj :=
fun P =>
  { cls := Value.type "function",
    data :=
      Data.func
        { name := Str.ofString "read_exponent", qualname := Str.ofString "read_exponent", params := (fA (at1 14 topB)),
          body := FuncBody.stmts (fB (at1 14 topB)), scope := (fS (at1 14 topB)), globals := 3, closure := [], defaults := Value.none,
          kwdefaults := Value.none, pyModule := Value.str (Str.ofString "outlinemill.exact") 268,
          code := Value.ref 142 } }
noncomputable def ho189 : Params → Obj :=
fun P =>
  { cls := Value.type "dict",
    data :=
      Data.dict
        #[{ hash := PyData.keyHash P (Str.ofString "__name__"), key := Value.str (Str.ofString "__name__") 165,
            val := Value.str (Str.ofString "outlinemill.path_words") 386 },
          { hash := PyData.keyHash P (Str.ofString "__doc__"), key := Value.str (Str.ofString "__doc__") 166,
            val := Value.none },
          { hash := PyData.keyHash P (Str.ofString "__package__"), key := Value.str (Str.ofString "__package__") 167,
            val := Value.none },
          { hash := PyData.keyHash P (Str.ofString "__loader__"), key := Value.str (Str.ofString "__loader__") 168,
            val := Value.builtin "__main__.__loader__#opaque" },
          { hash := PyData.keyHash P (Str.ofString "__spec__"), key := Value.str (Str.ofString "__spec__") 169,
            val := Value.none },
          { hash := PyData.keyHash P (Str.ofString "__annotations__"),
            key := Value.str (Str.ofString "__annotations__") 170, val := Value.ref 6 },
          { hash := PyData.keyHash P (Str.ofString "__builtins__"), key := Value.str (Str.ofString "__builtins__") 171,
            val := Value.ref 4 },
          { hash := PyData.keyHash P (Str.ofString "__file__"), key := Value.str (Str.ofString "__file__") 173,
            val := Value.str (Str.ofString "/claim/cut.py") 172 },
          { hash := PyData.keyHash P (Str.ofString "__cached__"), key := Value.str (Str.ofString "__cached__") 174,
            val := Value.none },
          { hash := PyData.keyHash P (Str.ofString "_wall"), key := Value.str (Str.ofString "_wall") 193,
            val := Value.ref 21 },
          { hash := PyData.keyHash P (Str.ofString "MillError"), key := Value.str (Str.ofString "MillError") 224,
            val := Value.ref 38 },
          { hash := PyData.keyHash P (Str.ofString "NumberFault"), key := Value.str (Str.ofString "NumberFault") 240,
            val := Value.ref 51 },
          { hash := PyData.keyHash P (Str.ofString "PathFault"), key := Value.str (Str.ofString "PathFault") 267,
            val := Value.ref 70 },
          { hash := PyData.keyHash P (Str.ofString "DIGITS_exact"), key := Value.str (Str.ofString "DIGITS_exact") 271,
            val := Value.str (Str.ofString "0123456789") 270 },
          { hash := PyData.keyHash P (Str.ofString "MOST_EXPONENT"),
            key := Value.str (Str.ofString "MOST_EXPONENT") 273, val := Value.int 300 272 },
          { hash := PyData.keyHash P (Str.ofString "MOST_FIGURES"), key := Value.str (Str.ofString "MOST_FIGURES") 275,
            val := Value.int 60 274 },
          { hash := PyData.keyHash P (Str.ofString "MOST_VALUE"), key := Value.str (Str.ofString "MOST_VALUE") 279,
            val := Value.int 1000000000000000000000000000000000000000000000000000000000000 278 },
          { hash := PyData.keyHash P (Str.ofString "common_divisor"),
            key := Value.str (Str.ofString "common_divisor") 289, val := Value.ref 79 },
          { hash := PyData.keyHash P (Str.ofString "fraction"), key := Value.str (Str.ofString "fraction") 299,
            val := Value.ref 87 },
          { hash := PyData.keyHash P (Str.ofString "NumberText"), key := Value.str (Str.ofString "NumberText") 353,
            val := Value.ref 125 },
          { hash := PyData.keyHash P (Str.ofString "whole_of"), key := Value.str (Str.ofString "whole_of") 362,
            val := Value.ref 136 },
          { hash := PyData.keyHash P (Str.ofString "read_exponent"),
            key := Value.str (Str.ofString "read_exponent") 371, val := Value.ref 143 },
          { hash := PyData.keyHash P (Str.ofString "read_decimal"), key := Value.str (Str.ofString "read_decimal") 385,
            val := Value.ref 150 },
          { hash := PyData.keyHash P (Str.ofString "BLANKS"), key := Value.str (Str.ofString "BLANKS") 389,
            val := Value.str (Str.ofString " \t\n\x0d\x0c") 388 },
          { hash := PyData.keyHash P (Str.ofString "DIGITS_path_words"),
            key := Value.str (Str.ofString "DIGITS_path_words") 391, val := Value.str (Str.ofString "0123456789") 390 }]
        25 }
noncomputable def ho190 : Params → Obj :=
fun P =>
  { cls := Value.none,
    data :=
      Data.fields
        #[Value.int 1 0, Value.int 0 0, Value.ref 20, Value.int 5 0, Value.int 0 0, Value.ref 27, Value.int 9 0,
          Value.int 0 0, Value.ref 47, Value.int 11 0, Value.int 0 0, Value.ref 59, Value.int 21 0, Value.int 0 0,
          Value.ref 78, Value.int 26 0, Value.int 0 0, Value.ref 86, Value.int 33 0, Value.int 0 0, Value.ref 93,
          Value.int 53 0, Value.int 0 0, Value.ref 135, Value.int 58 0, Value.int 0 0, Value.ref 142, Value.int 65 0,
          Value.int 0 0, Value.ref 149] }
noncomputable def ho191 : Params → Obj :=
fun P => { cls := Value.type "tuple", data := Data.seq #[] }
noncomputable def ho192 : Params → Obj :=
fun P => { cls := Value.none, data := Data.fields #[] }
noncomputable def ho193 : Params → Obj :=
fun P =>
  { cls := Value.type "tuple",
    data :=
      Data.seq
        #[Value.str (Str.ofString "text") 375, Value.str (Str.ofString "reader") 376,
          Value.str (Str.ofString "sign") 377, Value.str (Str.ofString "whole") 378,
          Value.str (Str.ofString "parts") 379, Value.str (Str.ofString "exponent") 380,
          Value.str (Str.ofString "top") 381, Value.str (Str.ofString "bottom") 382] }
noncomputable def ho194 : Params → Obj :=
fun P => { cls := Value.type "tuple", data := Data.seq #[] }
noncomputable def ho195 : Params → Obj :=
fun P =>
  { cls := Value.none,
    data :=
      Data.func
        { name := Str.ofString "read_decimal", qualname := Str.ofString "read_decimal", params := (fA (at1 15 topB)),
          body := FuncBody.stmts (fB (at1 15 topB)), scope := (fS (at1 15 topB)), globals := 0, closure := [], defaults := Value.none,
          kwdefaults := Value.none } }
noncomputable def ho196 : Params → Obj :=
fun P =>
  { cls := Value.type "code",
    data :=
      Data.fields
        #[Value.str (Str.ofString "read_decimal") 372, Value.str (Str.ofString "read_decimal") 373,
          Value.str (Str.ofString "/claim/cut.py") 374, Value.int 65 0, Value.int 1 0, Value.int 0 0, Value.int 0 0,
          Value.int 3 0, Value.ref 144, Value.bool true, Value.int 181 0, Value.ref 145, Value.none, Value.ref 146,
          Value.ref 147, Value.ref 148, Value.int 383 0, Value.int 65 0, Value.str (Str.ofString "/claim/cut.py") 384] }
noncomputable def ho197 : Params → Obj :=
fun P =>
  { cls := Value.type "function",
    data :=
      Data.func
        { name := Str.ofString "read_decimal", qualname := Str.ofString "read_decimal", params := (fA (at1 15 topB)),
          body := FuncBody.stmts (fB (at1 15 topB)), scope := (fS (at1 15 topB)), globals := 3, closure := [], defaults := Value.none,
          kwdefaults := Value.none, pyModule := Value.str (Str.ofString "outlinemill.exact") 268,
          code := Value.ref 149 } }
noncomputable def ho198 : Params → Obj :=
fun P =>
  { cls := Value.type "dict",
    data :=
      Data.dict
        #[{ hash := PyData.keyHash P (Str.ofString "__name__"), key := Value.str (Str.ofString "__name__") 165,
            val := Value.str (Str.ofString "outlinemill.path_words") 386 },
          { hash := PyData.keyHash P (Str.ofString "__doc__"), key := Value.str (Str.ofString "__doc__") 166,
            val := Value.none },
          { hash := PyData.keyHash P (Str.ofString "__package__"), key := Value.str (Str.ofString "__package__") 167,
            val := Value.none },
          { hash := PyData.keyHash P (Str.ofString "__loader__"), key := Value.str (Str.ofString "__loader__") 168,
            val := Value.builtin "__main__.__loader__#opaque" },
          { hash := PyData.keyHash P (Str.ofString "__spec__"), key := Value.str (Str.ofString "__spec__") 169,
            val := Value.none },
          { hash := PyData.keyHash P (Str.ofString "__annotations__"),
            key := Value.str (Str.ofString "__annotations__") 170, val := Value.ref 6 },
          { hash := PyData.keyHash P (Str.ofString "__builtins__"), key := Value.str (Str.ofString "__builtins__") 171,
            val := Value.ref 4 },
          { hash := PyData.keyHash P (Str.ofString "__file__"), key := Value.str (Str.ofString "__file__") 173,
            val := Value.str (Str.ofString "/claim/cut.py") 172 },
          { hash := PyData.keyHash P (Str.ofString "__cached__"), key := Value.str (Str.ofString "__cached__") 174,
            val := Value.none },
          { hash := PyData.keyHash P (Str.ofString "_wall"), key := Value.str (Str.ofString "_wall") 193,
            val := Value.ref 21 },
          { hash := PyData.keyHash P (Str.ofString "MillError"), key := Value.str (Str.ofString "MillError") 224,
            val := Value.ref 38 },
          { hash := PyData.keyHash P (Str.ofString "NumberFault"), key := Value.str (Str.ofString "NumberFault") 240,
            val := Value.ref 51 },
          { hash := PyData.keyHash P (Str.ofString "PathFault"), key := Value.str (Str.ofString "PathFault") 267,
            val := Value.ref 70 },
          { hash := PyData.keyHash P (Str.ofString "DIGITS_exact"), key := Value.str (Str.ofString "DIGITS_exact") 271,
            val := Value.str (Str.ofString "0123456789") 270 },
          { hash := PyData.keyHash P (Str.ofString "MOST_EXPONENT"),
            key := Value.str (Str.ofString "MOST_EXPONENT") 273, val := Value.int 300 272 },
          { hash := PyData.keyHash P (Str.ofString "MOST_FIGURES"), key := Value.str (Str.ofString "MOST_FIGURES") 275,
            val := Value.int 60 274 },
          { hash := PyData.keyHash P (Str.ofString "MOST_VALUE"), key := Value.str (Str.ofString "MOST_VALUE") 279,
            val := Value.int 1000000000000000000000000000000000000000000000000000000000000 278 },
          { hash := PyData.keyHash P (Str.ofString "common_divisor"),
            key := Value.str (Str.ofString "common_divisor") 289, val := Value.ref 79 },
          { hash := PyData.keyHash P (Str.ofString "fraction"), key := Value.str (Str.ofString "fraction") 299,
            val := Value.ref 87 },
          { hash := PyData.keyHash P (Str.ofString "NumberText"), key := Value.str (Str.ofString "NumberText") 353,
            val := Value.ref 125 },
          { hash := PyData.keyHash P (Str.ofString "whole_of"), key := Value.str (Str.ofString "whole_of") 362,
            val := Value.ref 136 },
          { hash := PyData.keyHash P (Str.ofString "read_exponent"),
            key := Value.str (Str.ofString "read_exponent") 371, val := Value.ref 143 },
          { hash := PyData.keyHash P (Str.ofString "read_decimal"), key := Value.str (Str.ofString "read_decimal") 385,
            val := Value.ref 150 },
          { hash := PyData.keyHash P (Str.ofString "BLANKS"), key := Value.str (Str.ofString "BLANKS") 389,
            val := Value.str (Str.ofString " \t\n\x0d\x0c") 388 },
          { hash := PyData.keyHash P (Str.ofString "DIGITS_path_words"),
            key := Value.str (Str.ofString "DIGITS_path_words") 391, val := Value.str (Str.ofString "0123456789") 390 },
          { hash := PyData.keyHash P (Str.ofString "PathScanner"), key := Value.str (Str.ofString "PathScanner") 505,
            val := Value.ref 244 }]
        26 }
noncomputable def ho199 : Params → Obj :=
fun P =>
  { cls := Value.none,
    data :=
      Data.fields
        #[Value.int 1 0, Value.int 0 0, Value.ref 20, Value.int 5 0, Value.int 0 0, Value.ref 27, Value.int 9 0,
          Value.int 0 0, Value.ref 47, Value.int 11 0, Value.int 0 0, Value.ref 59, Value.int 21 0, Value.int 0 0,
          Value.ref 78, Value.int 26 0, Value.int 0 0, Value.ref 86, Value.int 33 0, Value.int 0 0, Value.ref 93,
          Value.int 53 0, Value.int 0 0, Value.ref 135, Value.int 58 0, Value.int 0 0, Value.ref 142, Value.int 65 0,
          Value.int 0 0, Value.ref 149, Value.int 84 0, Value.int 0 0, Value.ref 156] }
noncomputable def ho200 : Params → Obj :=
fun P => { cls := Value.type "tuple", data := Data.seq #[] }
noncomputable def ho201 : Params → Obj :=
fun P =>
  { cls := Value.type "builtin_function_or_method",
    data := Data.fields #[Value.builtin "type.__prepare__", Value.type "type"] }
noncomputable def ho202 : Params → Obj :=
fun P =>
  { cls := Value.type "dict",
    data :=
      Data.dict
        #[{ hash := PyData.keyHash P (Str.ofString "__module__"), key := Value.str (Str.ofString "__module__") 399,
            val := Value.str (Str.ofString "outlinemill.path_words") 386 },
          { hash := PyData.keyHash P (Str.ofString "__qualname__"), key := Value.str (Str.ofString "__qualname__") 401,
            val := Value.str (Str.ofString "PathScanner") 400 },
          { hash := PyData.keyHash P (Str.ofString "__firstlineno__"),
            key := Value.str (Str.ofString "__firstlineno__") 403, val := Value.int 84 402 },
          { hash := PyData.keyHash P (Str.ofString "__init__"), key := Value.str (Str.ofString "__init__") 411,
            val := Value.ref 164 },
          { hash := PyData.keyHash P (Str.ofString "is_over"), key := Value.str (Str.ofString "is_over") 418,
            val := Value.ref 171 },
          { hash := PyData.keyHash P (Str.ofString "peek"), key := Value.str (Str.ofString "peek") 425,
            val := Value.ref 178 },
          { hash := PyData.keyHash P (Str.ofString "fault"), key := Value.str (Str.ofString "fault") 433,
            val := Value.ref 185 },
          { hash := PyData.keyHash P (Str.ofString "spaces"), key := Value.str (Str.ofString "spaces") 440,
            val := Value.ref 192 },
          { hash := PyData.keyHash P (Str.ofString "separator"), key := Value.str (Str.ofString "separator") 447,
            val := Value.ref 199 },
          { hash := PyData.keyHash P (Str.ofString "looks_number"), key := Value.str (Str.ofString "looks_number") 455,
            val := Value.ref 206 },
          { hash := PyData.keyHash P (Str.ofString "digits"), key := Value.str (Str.ofString "digits") 463,
            val := Value.ref 213 },
          { hash := PyData.keyHash P (Str.ofString "exponent"), key := Value.str (Str.ofString "exponent") 471,
            val := Value.ref 220 },
          { hash := PyData.keyHash P (Str.ofString "number"), key := Value.str (Str.ofString "number") 481,
            val := Value.ref 227 },
          { hash := PyData.keyHash P (Str.ofString "flag"), key := Value.str (Str.ofString "flag") 488,
            val := Value.ref 234 },
          { hash := PyData.keyHash P (Str.ofString "command"), key := Value.str (Str.ofString "command") 495,
            val := Value.ref 241 },
          { hash := PyData.keyHash P (Str.ofString "__static_attributes__"),
            key := Value.str (Str.ofString "__static_attributes__") 498, val := Value.ref 242 }]
        16 }
noncomputable def ho203 : Params → Obj :=
fun P => { cls := Value.type "tuple", data := Data.seq #[] }
noncomputable def ho204 : Params → Obj :=
fun P =>
  { cls := Value.none,
    data :=
      Data.fields
        #[Value.int 86 0, Value.int 4 0, Value.ref 163, Value.int 90 0, Value.int 4 0, Value.ref 170, Value.int 93 0,
          Value.int 4 0, Value.ref 177, Value.int 96 0, Value.int 4 0, Value.ref 184, Value.int 99 0, Value.int 4 0,
          Value.ref 191, Value.int 103 0, Value.int 4 0, Value.ref 198, Value.int 111 0, Value.int 4 0, Value.ref 205,
          Value.int 115 0, Value.int 4 0, Value.ref 212, Value.int 121 0, Value.int 4 0, Value.ref 219, Value.int 131 0,
          Value.int 4 0, Value.ref 226, Value.int 148 0, Value.int 4 0, Value.ref 233, Value.int 151 0, Value.int 4 0,
          Value.ref 240] }
noncomputable def ho205 : Params → Obj :=
fun P =>
  { cls := Value.type "code",
    data :=
      Data.fields
        #[Value.str (Str.ofString "PathScanner") 394, Value.str (Str.ofString "PathScanner") 395,
          Value.str (Str.ofString "/claim/cut.py") 396, Value.int 84 0, Value.int 0 0, Value.int 0 0, Value.int 0 0,
          Value.int 0 0, Value.ref 154, Value.bool false, Value.int 181 0, Value.ref 155, Value.none, Value.none,
          Value.none, Value.none, Value.int 397 0, Value.int 84 0, Value.str (Str.ofString "/claim/cut.py") 398] }
noncomputable def ho206 : Params → Obj :=
fun P =>
  { cls := Value.type "frame",
    slots :=
      #[some (Value.ref 156), some (Value.ref 3), some (Value.ref 153), none,
        some (Value.str (Str.ofString "outlinemill.path_words") 386), none, some (Value.ref 0)] }
noncomputable def ho207 : Params → Obj :=
fun P => { cls := Value.type "tuple", data := Data.seq #[] }
noncomputable def ho208 : Params → Obj :=
fun P => { cls := Value.none, data := Data.fields #[] }
noncomputable def ho209 : Params → Obj :=
fun P =>
  { cls := Value.type "tuple",
    data := Data.seq #[Value.str (Str.ofString "self") 407, Value.str (Str.ofString "text") 408] }
noncomputable def ho210 : Params → Obj :=
fun P => { cls := Value.type "tuple", data := Data.seq #[] }
noncomputable def ho211 : Params → Obj :=
fun P =>
  { cls := Value.none,
    data :=
      Data.func
        { name := Str.ofString "__init__", qualname := Str.ofString "PathScanner.__init__", params := (fA (at1 0 (cB (at1 19 topB)))),
          body := FuncBody.stmts (fB (at1 0 (cB (at1 19 topB)))), scope := (fS (at1 0 (cB (at1 19 topB)))), globals := 0, closure := [], defaults := Value.none,
          kwdefaults := Value.none } }
noncomputable def ho212 : Params → Obj :=
fun P =>
  { cls := Value.type "code",
    data :=
      Data.fields
        #[Value.str (Str.ofString "__init__") 404, Value.str (Str.ofString "PathScanner.__init__") 405,
          Value.str (Str.ofString "/claim/cut.py") 406, Value.int 86 0, Value.int 2 0, Value.int 0 0, Value.int 0 0,
          Value.int 3 0, Value.ref 158, Value.bool true, Value.int 181 0, Value.ref 159, Value.none, Value.ref 160,
          Value.ref 161, Value.ref 162, Value.int 409 0, Value.int 86 0, Value.str (Str.ofString "/claim/cut.py") 410] }
noncomputable def ho213 : Params → Obj :=
fun P =>
  { cls := Value.type "function",
    data :=
      Data.func
        { name := Str.ofString "__init__", qualname := Str.ofString "PathScanner.__init__", params := (fA (at1 0 (cB (at1 19 topB)))),
          body := FuncBody.stmts (fB (at1 0 (cB (at1 19 topB)))), scope := (fS (at1 0 (cB (at1 19 topB)))), globals := 3, closure := [], defaults := Value.none,
          kwdefaults := Value.none, pyModule := Value.str (Str.ofString "outlinemill.path_words") 386,
          code := Value.ref 163 } }
noncomputable def ho214 : Params → Obj :=
fun P => { cls := Value.type "tuple", data := Data.seq #[] }
noncomputable def ho215 : Params → Obj :=
fun P => { cls := Value.none, data := Data.fields #[] }
noncomputable def ho216 : Params → Obj :=
fun P => { cls := Value.type "tuple", data := Data.seq #[Value.str (Str.ofString "self") 415] }
noncomputable def ho217 : Params → Obj :=
fun P => { cls := Value.type "tuple", data := Data.seq #[] }
noncomputable def ho218 : Params → Obj :=
fun P =>
  { cls := Value.none,
    data :=
      Data.func
        { name := Str.ofString "is_over", qualname := Str.ofString "PathScanner.is_over", params := (fA (at1 1 (cB (at1 19 topB)))),
          body := FuncBody.stmts (fB (at1 1 (cB (at1 19 topB)))), scope := (fS (at1 11 (cB (at1 19 topB)))), globals := 0, closure := [], defaults := Value.none,
          kwdefaults := Value.none } }
noncomputable def ho219 : Params → Obj :=
fun P =>
  { cls := Value.type "code",
    data :=
      Data.fields
        #[Value.str (Str.ofString "is_over") 412, Value.str (Str.ofString "PathScanner.is_over") 413,
          Value.str (Str.ofString "/claim/cut.py") 414, Value.int 90 0, Value.int 1 0, Value.int 0 0, Value.int 0 0,
          Value.int 3 0, Value.ref 165, Value.bool true, Value.int 181 0, Value.ref 166, Value.none, Value.ref 167,
          Value.ref 168, Value.ref 169, Value.int 416 0, Value.int 90 0, Value.str (Str.ofString "/claim/cut.py") 417] }
noncomputable def ho220 : Params → Obj :=
fun P =>
  { cls := Value.type "function",
    data :=
      Data.func
        { name := Str.ofString "is_over", qualname := Str.ofString "PathScanner.is_over", params := (fA (at1 1 (cB (at1 19 topB)))),
          body := FuncBody.stmts (fB (at1 1 (cB (at1 19 topB)))), scope := (fS (at1 11 (cB (at1 19 topB)))), globals := 3, closure := [], defaults := Value.none,
          kwdefaults := Value.none, pyModule := Value.str (Str.ofString "outlinemill.path_words") 386,
          code := Value.ref 170 } }
noncomputable def ho221 : Params → Obj :=
fun P => { cls := Value.type "tuple", data := Data.seq #[] }
noncomputable def ho222 : Params → Obj :=
fun P => { cls := Value.none, data := Data.fields #[] }
noncomputable def ho223 : Params → Obj :=
fun P => { cls := Value.type "tuple", data := Data.seq #[Value.str (Str.ofString "self") 422] }
noncomputable def ho224 : Params → Obj :=
fun P => { cls := Value.type "tuple", data := Data.seq #[] }
noncomputable def ho225 : Params → Obj :=
fun P =>
  { cls := Value.none,
    data :=
      Data.func
        { name := Str.ofString "peek", qualname := Str.ofString "PathScanner.peek", params := (fA (at1 2 (cB (at1 19 topB)))),
          body := FuncBody.stmts (fB (at1 2 (cB (at1 19 topB)))), scope := (fS (at1 5 (cB (at1 19 topB)))), globals := 0, closure := [], defaults := Value.none,
          kwdefaults := Value.none } }
noncomputable def ho226 : Params → Obj :=
fun P =>
  { cls := Value.type "code",
    data :=
      Data.fields
        #[Value.str (Str.ofString "peek") 419, Value.str (Str.ofString "PathScanner.peek") 420,
          Value.str (Str.ofString "/claim/cut.py") 421, Value.int 93 0, Value.int 1 0, Value.int 0 0, Value.int 0 0,
          Value.int 3 0, Value.ref 172, Value.bool true, Value.int 181 0, Value.ref 173, Value.none, Value.ref 174,
          Value.ref 175, Value.ref 176, Value.int 423 0, Value.int 93 0, Value.str (Str.ofString "/claim/cut.py") 424] }
noncomputable def ho227 : Params → Obj :=
fun P =>
  { cls := Value.type "function",
    data :=
      Data.func
        { name := Str.ofString "peek", qualname := Str.ofString "PathScanner.peek", params := (fA (at1 2 (cB (at1 19 topB)))),
          body := FuncBody.stmts (fB (at1 2 (cB (at1 19 topB)))), scope := (fS (at1 5 (cB (at1 19 topB)))), globals := 3, closure := [], defaults := Value.none,
          kwdefaults := Value.none, pyModule := Value.str (Str.ofString "outlinemill.path_words") 386,
          code := Value.ref 177 } }
noncomputable def ho228 : Params → Obj :=
fun P => { cls := Value.type "tuple", data := Data.seq #[] }
noncomputable def ho229 : Params → Obj :=
fun P => { cls := Value.none, data := Data.fields #[] }
noncomputable def ho230 : Params → Obj :=
fun P =>
  { cls := Value.type "tuple",
    data := Data.seq #[Value.str (Str.ofString "self") 429, Value.str (Str.ofString "message") 430] }
noncomputable def ho231 : Params → Obj :=
fun P => { cls := Value.type "tuple", data := Data.seq #[] }
noncomputable def ho232 : Params → Obj :=
fun P =>
  { cls := Value.none,
    data :=
      Data.func
        { name := Str.ofString "fault", qualname := Str.ofString "PathScanner.fault", params := (fA (at1 3 (cB (at1 19 topB)))),
          body := FuncBody.stmts (fB (at1 3 (cB (at1 19 topB)))), scope := (fS (at1 3 (cB (at1 19 topB)))), globals := 0, closure := [], defaults := Value.none,
          kwdefaults := Value.none } }
noncomputable def ho233 : Params → Obj :=
fun P =>
  { cls := Value.type "code",
    data :=
      Data.fields
        #[Value.str (Str.ofString "fault") 426, Value.str (Str.ofString "PathScanner.fault") 427,
          Value.str (Str.ofString "/claim/cut.py") 428, Value.int 96 0, Value.int 2 0, Value.int 0 0, Value.int 0 0,
          Value.int 3 0, Value.ref 179, Value.bool true, Value.int 181 0, Value.ref 180, Value.none, Value.ref 181,
          Value.ref 182, Value.ref 183, Value.int 431 0, Value.int 96 0, Value.str (Str.ofString "/claim/cut.py") 432] }
noncomputable def ho234 : Params → Obj :=
fun P =>
  { cls := Value.type "function",
    data :=
      Data.func
        { name := Str.ofString "fault", qualname := Str.ofString "PathScanner.fault", params := (fA (at1 3 (cB (at1 19 topB)))),
          body := FuncBody.stmts (fB (at1 3 (cB (at1 19 topB)))), scope := (fS (at1 3 (cB (at1 19 topB)))), globals := 3, closure := [], defaults := Value.none,
          kwdefaults := Value.none, pyModule := Value.str (Str.ofString "outlinemill.path_words") 386,
          code := Value.ref 184 } }
noncomputable def ho235 : Params → Obj :=
fun P => { cls := Value.type "tuple", data := Data.seq #[] }
noncomputable def ho236 : Params → Obj :=
fun P => { cls := Value.none, data := Data.fields #[] }
noncomputable def ho237 : Params → Obj :=
fun P => { cls := Value.type "tuple", data := Data.seq #[Value.str (Str.ofString "self") 437] }
noncomputable def ho238 : Params → Obj :=
fun P => { cls := Value.type "tuple", data := Data.seq #[] }
noncomputable def ho239 : Params → Obj :=
fun P =>
  { cls := Value.none,
    data :=
      Data.func
        { name := Str.ofString "spaces", qualname := Str.ofString "PathScanner.spaces", params := (fA (at1 4 (cB (at1 19 topB)))),
          body := FuncBody.stmts (fB (at1 4 (cB (at1 19 topB)))), scope := (fS (at1 4 (cB (at1 19 topB)))), globals := 0, closure := [], defaults := Value.none,
          kwdefaults := Value.none } }
noncomputable def ho240 : Params → Obj :=
fun P =>
  { cls := Value.type "code",
    data :=
      Data.fields
        #[Value.str (Str.ofString "spaces") 434, Value.str (Str.ofString "PathScanner.spaces") 435,
          Value.str (Str.ofString "/claim/cut.py") 436, Value.int 99 0, Value.int 1 0, Value.int 0 0, Value.int 0 0,
          Value.int 3 0, Value.ref 186, Value.bool true, Value.int 181 0, Value.ref 187, Value.none, Value.ref 188,
          Value.ref 189, Value.ref 190, Value.int 438 0, Value.int 99 0, Value.str (Str.ofString "/claim/cut.py") 439] }
noncomputable def ho241 : Params → Obj :=
fun P =>
  { cls := Value.type "function",
    data :=
      Data.func
        { name := Str.ofString "spaces", qualname := Str.ofString "PathScanner.spaces", params := (fA (at1 4 (cB (at1 19 topB)))),
          body := FuncBody.stmts (fB (at1 4 (cB (at1 19 topB)))), scope := (fS (at1 4 (cB (at1 19 topB)))), globals := 3, closure := [], defaults := Value.none,
          kwdefaults := Value.none, pyModule := Value.str (Str.ofString "outlinemill.path_words") 386,
          code := Value.ref 191 } }
noncomputable def ho242 : Params → Obj :=
fun P => { cls := Value.type "tuple", data := Data.seq #[] }
noncomputable def ho243 : Params → Obj :=
fun P => { cls := Value.none, data := Data.fields #[] }
noncomputable def ho244 : Params → Obj :=
fun P => { cls := Value.type "tuple", data := Data.seq #[Value.str (Str.ofString "self") 444] }
noncomputable def ho245 : Params → Obj :=
fun P => { cls := Value.type "tuple", data := Data.seq #[] }
noncomputable def ho246 : Params → Obj :=
fun P =>
  { cls := Value.none,
    data :=
      Data.func
        { name := Str.ofString "separator", qualname := Str.ofString "PathScanner.separator", params := (fA (at1 5 (cB (at1 19 topB)))),
          body := FuncBody.stmts (fB (at1 5 (cB (at1 19 topB)))), scope := (fS (at1 5 (cB (at1 19 topB)))), globals := 0, closure := [], defaults := Value.none,
          kwdefaults := Value.none } }
noncomputable def ho247 : Params → Obj :=
fun P =>
  { cls := Value.type "code",
    data :=
      Data.fields
        #[Value.str (Str.ofString "separator") 441, Value.str (Str.ofString "PathScanner.separator") 442,
          Value.str (Str.ofString "/claim/cut.py") 443, Value.int 103 0, Value.int 1 0, Value.int 0 0, Value.int 0 0,
          Value.int 3 0, Value.ref 193, Value.bool true, Value.int 181 0, Value.ref 194, Value.none, Value.ref 195,
          Value.ref 196, Value.ref 197, Value.int 445 0, Value.int 103 0,
          Value.str (Str.ofString "/claim/cut.py") 446] }
noncomputable def ho248 : Params → Obj :=
fun P =>
  { cls := Value.type "function",
    data :=
      Data.func
        { name := Str.ofString "separator", qualname := Str.ofString "PathScanner.separator", params := (fA (at1 5 (cB (at1 19 topB)))),
          body := FuncBody.stmts (fB (at1 5 (cB (at1 19 topB)))), scope := (fS (at1 5 (cB (at1 19 topB)))), globals := 3, closure := [], defaults := Value.none,
          kwdefaults := Value.none, pyModule := Value.str (Str.ofString "outlinemill.path_words") 386,
          code := Value.ref 198 } }
noncomputable def ho249 : Params → Obj :=
fun P => { cls := Value.type "tuple", data := Data.seq #[] }
noncomputable def ho250 : Params → Obj :=
fun P => { cls := Value.none, data := Data.fields #[] }
noncomputable def ho251 : Params → Obj :=
fun P =>
  { cls := Value.type "tuple",
    data := Data.seq #[Value.str (Str.ofString "self") 451, Value.str (Str.ofString "sign") 452] }
noncomputable def ho252 : Params → Obj :=
fun P => { cls := Value.type "tuple", data := Data.seq #[] }
noncomputable def ho253 : Params → Obj :=
fun P =>
  { cls := Value.none,
    data :=
      Data.func
        { name := Str.ofString "looks_number", qualname := Str.ofString "PathScanner.looks_number", params := (fA (at1 6 (cB (at1 19 topB)))),
          body := FuncBody.stmts (fB (at1 6 (cB (at1 19 topB)))), scope := (fS (at1 6 (cB (at1 19 topB)))), globals := 0, closure := [], defaults := Value.none,
          kwdefaults := Value.none } }
noncomputable def ho254 : Params → Obj :=
fun P =>
  { cls := Value.type "code",
    data :=
      Data.fields
        #[Value.str (Str.ofString "looks_number") 448, Value.str (Str.ofString "PathScanner.looks_number") 449,
          Value.str (Str.ofString "/claim/cut.py") 450, Value.int 111 0, Value.int 1 0, Value.int 0 0, Value.int 0 0,
          Value.int 3 0, Value.ref 200, Value.bool true, Value.int 181 0, Value.ref 201, Value.none, Value.ref 202,
          Value.ref 203, Value.ref 204, Value.int 453 0, Value.int 111 0,
          Value.str (Str.ofString "/claim/cut.py") 454] }
noncomputable def ho255 : Params → Obj :=
fun P =>
  { cls := Value.type "function",
    data :=
      Data.func
        { name := Str.ofString "looks_number", qualname := Str.ofString "PathScanner.looks_number", params := (fA (at1 6 (cB (at1 19 topB)))),
          body := FuncBody.stmts (fB (at1 6 (cB (at1 19 topB)))), scope := (fS (at1 6 (cB (at1 19 topB)))), globals := 3, closure := [], defaults := Value.none,
          kwdefaults := Value.none, pyModule := Value.str (Str.ofString "outlinemill.path_words") 386,
          code := Value.ref 205 } }
noncomputable def ho256 : Params → Obj :=
fun P => { cls := Value.type "tuple", data := Data.seq #[] }
noncomputable def ho257 : Params → Obj :=
fun P => { cls := Value.none, data := Data.fields #[] }
noncomputable def ho258 : Params → Obj :=
fun P =>
  { cls := Value.type "tuple",
    data := Data.seq #[Value.str (Str.ofString "self") 459, Value.str (Str.ofString "begin") 460] }
noncomputable def ho259 : Params → Obj :=
fun P => { cls := Value.type "tuple", data := Data.seq #[] }
noncomputable def ho260 : Params → Obj :=
fun P =>
  { cls := Value.none,
    data :=
      Data.func
        { name := Str.ofString "digits", qualname := Str.ofString "PathScanner.digits", params := (fA (at1 7 (cB (at1 19 topB)))),
          body := FuncBody.stmts (fB (at1 7 (cB (at1 19 topB)))), scope := (fS (at1 7 (cB (at1 19 topB)))), globals := 0, closure := [], defaults := Value.none,
          kwdefaults := Value.none } }
noncomputable def ho261 : Params → Obj :=
fun P =>
  { cls := Value.type "code",
    data :=
      Data.fields
        #[Value.str (Str.ofString "digits") 456, Value.str (Str.ofString "PathScanner.digits") 457,
          Value.str (Str.ofString "/claim/cut.py") 458, Value.int 115 0, Value.int 1 0, Value.int 0 0, Value.int 0 0,
          Value.int 3 0, Value.ref 207, Value.bool true, Value.int 181 0, Value.ref 208, Value.none, Value.ref 209,
          Value.ref 210, Value.ref 211, Value.int 461 0, Value.int 115 0,
          Value.str (Str.ofString "/claim/cut.py") 462] }
noncomputable def ho262 : Params → Obj :=
fun P =>
  { cls := Value.type "function",
    data :=
      Data.func
        { name := Str.ofString "digits", qualname := Str.ofString "PathScanner.digits", params := (fA (at1 7 (cB (at1 19 topB)))),
          body := FuncBody.stmts (fB (at1 7 (cB (at1 19 topB)))), scope := (fS (at1 7 (cB (at1 19 topB)))), globals := 3, closure := [], defaults := Value.none,
          kwdefaults := Value.none, pyModule := Value.str (Str.ofString "outlinemill.path_words") 386,
          code := Value.ref 212 } }
noncomputable def ho263 : Params → Obj :=
fun P => { cls := Value.type "tuple", data := Data.seq #[] }
noncomputable def ho264 : Params → Obj :=
fun P => { cls := Value.none, data := Data.fields #[] }
noncomputable def ho265 : Params → Obj :=
fun P =>
  { cls := Value.type "tuple",
    data := Data.seq #[Value.str (Str.ofString "self") 467, Value.str (Str.ofString "ahead") 468] }
noncomputable def ho266 : Params → Obj :=
fun P => { cls := Value.type "tuple", data := Data.seq #[] }
noncomputable def ho267 : Params → Obj :=
fun P =>
  { cls := Value.none,
    data :=
      Data.func
        { name := Str.ofString "exponent", qualname := Str.ofString "PathScanner.exponent", params := (fA (at1 8 (cB (at1 19 topB)))),
          body := FuncBody.stmts (fB (at1 8 (cB (at1 19 topB)))), scope := (fS (at1 8 (cB (at1 19 topB)))), globals := 0, closure := [], defaults := Value.none,
          kwdefaults := Value.none } }
noncomputable def ho268 : Params → Obj :=
fun P =>
  { cls := Value.type "code",
    data :=
      Data.fields
        #[Value.str (Str.ofString "exponent") 464, Value.str (Str.ofString "PathScanner.exponent") 465,
          Value.str (Str.ofString "/claim/cut.py") 466, Value.int 121 0, Value.int 1 0, Value.int 0 0, Value.int 0 0,
          Value.int 3 0, Value.ref 214, Value.bool true, Value.int 181 0, Value.ref 215, Value.none, Value.ref 216,
          Value.ref 217, Value.ref 218, Value.int 469 0, Value.int 121 0,
          Value.str (Str.ofString "/claim/cut.py") 470] }
noncomputable def ho269 : Params → Obj :=
fun P =>
  { cls := Value.type "function",
    data :=
      Data.func
        { name := Str.ofString "exponent", qualname := Str.ofString "PathScanner.exponent", params := (fA (at1 8 (cB (at1 19 topB)))),
          body := FuncBody.stmts (fB (at1 8 (cB (at1 19 topB)))), scope := (fS (at1 8 (cB (at1 19 topB)))), globals := 3, closure := [], defaults := Value.none,
          kwdefaults := Value.none, pyModule := Value.str (Str.ofString "outlinemill.path_words") 386,
          code := Value.ref 219 } }
noncomputable def ho270 : Params → Obj :=
fun P => { cls := Value.type "tuple", data := Data.seq #[] }
noncomputable def ho271 : Params → Obj :=
fun P => { cls := Value.none, data := Data.fields #[] }
noncomputable def ho272 : Params → Obj :=
fun P =>
  { cls := Value.type "tuple",
    data :=
      Data.seq
        #[Value.str (Str.ofString "self") 475, Value.str (Str.ofString "begin") 476,
          Value.str (Str.ofString "many") 477, Value.str (Str.ofString "fault") 478] }
noncomputable def ho273 : Params → Obj :=
fun P => { cls := Value.type "tuple", data := Data.seq #[] }
noncomputable def ho274 : Params → Obj :=
fun P =>
  { cls := Value.none,
    data :=
      Data.func
        { name := Str.ofString "number", qualname := Str.ofString "PathScanner.number", params := (fA (at1 9 (cB (at1 19 topB)))),
          body := FuncBody.stmts (fB (at1 9 (cB (at1 19 topB)))), scope := (fS (at1 9 (cB (at1 19 topB)))), globals := 0, closure := [], defaults := Value.none,
          kwdefaults := Value.none } }
noncomputable def ho275 : Params → Obj :=
fun P =>
  { cls := Value.type "code",
    data :=
      Data.fields
        #[Value.str (Str.ofString "number") 472, Value.str (Str.ofString "PathScanner.number") 473,
          Value.str (Str.ofString "/claim/cut.py") 474, Value.int 131 0, Value.int 1 0, Value.int 0 0, Value.int 0 0,
          Value.int 3 0, Value.ref 221, Value.bool true, Value.int 181 0, Value.ref 222, Value.none, Value.ref 223,
          Value.ref 224, Value.ref 225, Value.int 479 0, Value.int 131 0,
          Value.str (Str.ofString "/claim/cut.py") 480] }
noncomputable def ho276 : Params → Obj :=
fun P =>
  { cls := Value.type "function",
    data :=
      Data.func
        { name := Str.ofString "number", qualname := Str.ofString "PathScanner.number", params := (fA (at1 9 (cB (at1 19 topB)))),
          body := FuncBody.stmts (fB (at1 9 (cB (at1 19 topB)))), scope := (fS (at1 9 (cB (at1 19 topB)))), globals := 3, closure := [], defaults := Value.none,
          kwdefaults := Value.none, pyModule := Value.str (Str.ofString "outlinemill.path_words") 386,
          code := Value.ref 226 } }
noncomputable def ho277 : Params → Obj :=
fun P => { cls := Value.type "tuple", data := Data.seq #[] }
noncomputable def ho278 : Params → Obj :=
fun P => { cls := Value.none, data := Data.fields #[] }
noncomputable def ho279 : Params → Obj :=
fun P => { cls := Value.type "tuple", data := Data.seq #[Value.str (Str.ofString "self") 485] }
noncomputable def ho280 : Params → Obj :=
fun P => { cls := Value.type "tuple", data := Data.seq #[] }
noncomputable def ho281 : Params → Obj :=
fun P =>
  { cls := Value.none,
    data :=
      Data.func
        { name := Str.ofString "flag", qualname := Str.ofString "PathScanner.flag", params := (fA (at1 10 (cB (at1 19 topB)))),
          body := FuncBody.stmts (fB (at1 10 (cB (at1 19 topB)))), scope := (fS (at1 11 (cB (at1 19 topB)))), globals := 0, closure := [], defaults := Value.none,
          kwdefaults := Value.none } }
noncomputable def ho282 : Params → Obj :=
fun P =>
  { cls := Value.type "code",
    data :=
      Data.fields
        #[Value.str (Str.ofString "flag") 482, Value.str (Str.ofString "PathScanner.flag") 483,
          Value.str (Str.ofString "/claim/cut.py") 484, Value.int 148 0, Value.int 1 0, Value.int 0 0, Value.int 0 0,
          Value.int 3 0, Value.ref 228, Value.bool true, Value.int 181 0, Value.ref 229, Value.none, Value.ref 230,
          Value.ref 231, Value.ref 232, Value.int 486 0, Value.int 148 0,
          Value.str (Str.ofString "/claim/cut.py") 487] }
noncomputable def ho283 : Params → Obj :=
fun P =>
  { cls := Value.type "function",
    data :=
      Data.func
        { name := Str.ofString "flag", qualname := Str.ofString "PathScanner.flag", params := (fA (at1 10 (cB (at1 19 topB)))),
          body := FuncBody.stmts (fB (at1 10 (cB (at1 19 topB)))), scope := (fS (at1 11 (cB (at1 19 topB)))), globals := 3, closure := [], defaults := Value.none,
          kwdefaults := Value.none, pyModule := Value.str (Str.ofString "outlinemill.path_words") 386,
          code := Value.ref 233 } }
noncomputable def ho284 : Params → Obj :=
fun P => { cls := Value.type "tuple", data := Data.seq #[] }
noncomputable def ho285 : Params → Obj :=
fun P => { cls := Value.none, data := Data.fields #[] }
noncomputable def ho286 : Params → Obj :=
fun P => { cls := Value.type "tuple", data := Data.seq #[Value.str (Str.ofString "self") 492] }
noncomputable def ho287 : Params → Obj :=
fun P => { cls := Value.type "tuple", data := Data.seq #[] }
noncomputable def ho288 : Params → Obj :=
fun P =>
  { cls := Value.none,
    data :=
      Data.func
        { name := Str.ofString "command", qualname := Str.ofString "PathScanner.command", params := (fA (at1 11 (cB (at1 19 topB)))),
          body := FuncBody.stmts (fB (at1 11 (cB (at1 19 topB)))), scope := (fS (at1 11 (cB (at1 19 topB)))), globals := 0, closure := [], defaults := Value.none,
          kwdefaults := Value.none } }
noncomputable def ho289 : Params → Obj :=
fun P =>
  { cls := Value.type "code",
    data :=
      Data.fields
        #[Value.str (Str.ofString "command") 489, Value.str (Str.ofString "PathScanner.command") 490,
          Value.str (Str.ofString "/claim/cut.py") 491, Value.int 151 0, Value.int 1 0, Value.int 0 0, Value.int 0 0,
          Value.int 3 0, Value.ref 235, Value.bool true, Value.int 181 0, Value.ref 236, Value.none, Value.ref 237,
          Value.ref 238, Value.ref 239, Value.int 493 0, Value.int 151 0,
          Value.str (Str.ofString "/claim/cut.py") 494] }
noncomputable def ho290 : Params → Obj :=
fun P =>
  { cls := Value.type "function",
    data :=
      Data.func
        { name := Str.ofString "command", qualname := Str.ofString "PathScanner.command", params := (fA (at1 11 (cB (at1 19 topB)))),
          body := FuncBody.stmts (fB (at1 11 (cB (at1 19 topB)))), scope := (fS (at1 11 (cB (at1 19 topB)))), globals := 3, closure := [], defaults := Value.none,
          kwdefaults := Value.none, pyModule := Value.str (Str.ofString "outlinemill.path_words") 386,
          code := Value.ref 240 } }
noncomputable def ho291 : Params → Obj :=
fun P =>
  { cls := Value.type "tuple",
    data := Data.seq #[Value.str (Str.ofString "at") 496, Value.str (Str.ofString "text") 497] }
noncomputable def ho292 : Params → Obj :=
fun P =>
  { cls := Value.type "dict",
    data :=
      Data.dict
        #[{ hash := PyData.keyHash P (Str.ofString "__module__"), key := Value.str (Str.ofString "__module__") 399,
            val := Value.str (Str.ofString "outlinemill.path_words") 386 },
          { hash := PyData.keyHash P (Str.ofString "__firstlineno__"),
            key := Value.str (Str.ofString "__firstlineno__") 403, val := Value.int 84 402 },
          { hash := PyData.keyHash P (Str.ofString "__init__"), key := Value.str (Str.ofString "__init__") 411,
            val := Value.ref 164 },
          { hash := PyData.keyHash P (Str.ofString "is_over"), key := Value.str (Str.ofString "is_over") 418,
            val := Value.ref 171 },
          { hash := PyData.keyHash P (Str.ofString "peek"), key := Value.str (Str.ofString "peek") 425,
            val := Value.ref 178 },
          { hash := PyData.keyHash P (Str.ofString "fault"), key := Value.str (Str.ofString "fault") 433,
            val := Value.ref 185 },
          { hash := PyData.keyHash P (Str.ofString "spaces"), key := Value.str (Str.ofString "spaces") 440,
            val := Value.ref 192 },
          { hash := PyData.keyHash P (Str.ofString "separator"), key := Value.str (Str.ofString "separator") 447,
            val := Value.ref 199 },
          { hash := PyData.keyHash P (Str.ofString "looks_number"), key := Value.str (Str.ofString "looks_number") 455,
            val := Value.ref 206 },
          { hash := PyData.keyHash P (Str.ofString "digits"), key := Value.str (Str.ofString "digits") 463,
            val := Value.ref 213 },
          { hash := PyData.keyHash P (Str.ofString "exponent"), key := Value.str (Str.ofString "exponent") 471,
            val := Value.ref 220 },
          { hash := PyData.keyHash P (Str.ofString "number"), key := Value.str (Str.ofString "number") 481,
            val := Value.ref 227 },
          { hash := PyData.keyHash P (Str.ofString "flag"), key := Value.str (Str.ofString "flag") 488,
            val := Value.ref 234 },
          { hash := PyData.keyHash P (Str.ofString "command"), key := Value.str (Str.ofString "command") 495,
            val := Value.ref 241 },
          { hash := PyData.keyHash P (Str.ofString "__static_attributes__"),
            key := Value.str (Str.ofString "__static_attributes__") 498, val := Value.ref 242 },
          { hash := PyData.keyHash P (Str.ofString "__dict__"), key := Value.str (Str.ofString "__dict__") 500,
            val := Value.ref 245 },
          { hash := PyData.keyHash P (Str.ofString "__weakref__"), key := Value.str (Str.ofString "__weakref__") 502,
            val := Value.ref 246 },
          { hash := PyData.keyHash P (Str.ofString "__doc__"), key := Value.str (Str.ofString "__doc__") 503,
            val := Value.none }]
        4 }
noncomputable def ho293 : Params → Obj :=
fun P =>
  { cls := Value.type "type",
    data :=
      Data.cls
        { name := Str.ofString "PathScanner", bases := [Value.type "object"],
          mro := [Value.ref 244, Value.type "object"], ns := 243, qualname := Str.ofString "PathScanner" },
    slots :=
      #[none, none, some (Value.str (Str.ofString "PathScanner") 392),
        some (Value.str (Str.ofString "PathScanner") 400), some (Value.builtin "object.__new__"),
        some (Value.bool true)] }
noncomputable def ho294 : Params → Obj :=
fun P =>
  { cls := Value.type "getset_descriptor",
    data :=
      Data.fields
        #[Value.str (Str.ofString "__dict__") 499, Value.ref 244, Value.builtin "function.__dict__",
          Value.builtin "function.__dict__#set"] }
noncomputable def ho295 : Params → Obj :=
fun P =>
  { cls := Value.type "getset_descriptor",
    data :=
      Data.fields
        #[Value.str (Str.ofString "__weakref__") 501, Value.ref 244, Value.builtin "ExceptionGroup.__weakref__",
          Value.none] }
noncomputable def ho296 : Params → Obj :=
fun P => { cls := Value.type "super", data := Data.fields #[Value.ref 244, Value.ref 244, Value.ref 244] }
noncomputable def ho297 : Params → Obj :=
fun P =>
  { cls := Value.type "builtin_function_or_method",
    data := Data.fields #[Value.builtin "object.__init_subclass__", Value.ref 244] }
noncomputable def ho298 : Params → Obj :=
fun P =>
  { cls := Value.type "dict",
    data :=
      Data.dict
        #[{ hash := PyData.keyHash P (Str.ofString "__name__"), key := Value.str (Str.ofString "__name__") 165,
            val := Value.str (Str.ofString "law_xm0729_01") 514 },
          { hash := PyData.keyHash P (Str.ofString "__doc__"), key := Value.str (Str.ofString "__doc__") 166,
            val := Value.none },
          { hash := PyData.keyHash P (Str.ofString "__package__"), key := Value.str (Str.ofString "__package__") 167,
            val := Value.none },
          { hash := PyData.keyHash P (Str.ofString "__loader__"), key := Value.str (Str.ofString "__loader__") 168,
            val := Value.builtin "__main__.__loader__#opaque" },
          { hash := PyData.keyHash P (Str.ofString "__spec__"), key := Value.str (Str.ofString "__spec__") 169,
            val := Value.none },
          { hash := PyData.keyHash P (Str.ofString "__annotations__"),
            key := Value.str (Str.ofString "__annotations__") 170, val := Value.ref 6 },
          { hash := PyData.keyHash P (Str.ofString "__builtins__"), key := Value.str (Str.ofString "__builtins__") 171,
            val := Value.ref 4 },
          { hash := PyData.keyHash P (Str.ofString "__file__"), key := Value.str (Str.ofString "__file__") 173,
            val := Value.str (Str.ofString "/claim/cut.py") 172 },
          { hash := PyData.keyHash P (Str.ofString "__cached__"), key := Value.str (Str.ofString "__cached__") 174,
            val := Value.none },
          { hash := PyData.keyHash P (Str.ofString "_wall"), key := Value.str (Str.ofString "_wall") 193,
            val := Value.ref 21 },
          { hash := PyData.keyHash P (Str.ofString "MillError"), key := Value.str (Str.ofString "MillError") 224,
            val := Value.ref 38 },
          { hash := PyData.keyHash P (Str.ofString "NumberFault"), key := Value.str (Str.ofString "NumberFault") 240,
            val := Value.ref 51 },
          { hash := PyData.keyHash P (Str.ofString "PathFault"), key := Value.str (Str.ofString "PathFault") 267,
            val := Value.ref 70 },
          { hash := PyData.keyHash P (Str.ofString "DIGITS_exact"), key := Value.str (Str.ofString "DIGITS_exact") 271,
            val := Value.str (Str.ofString "0123456789") 270 },
          { hash := PyData.keyHash P (Str.ofString "MOST_EXPONENT"),
            key := Value.str (Str.ofString "MOST_EXPONENT") 273, val := Value.int 300 272 },
          { hash := PyData.keyHash P (Str.ofString "MOST_FIGURES"), key := Value.str (Str.ofString "MOST_FIGURES") 275,
            val := Value.int 60 274 },
          { hash := PyData.keyHash P (Str.ofString "MOST_VALUE"), key := Value.str (Str.ofString "MOST_VALUE") 279,
            val := Value.int 1000000000000000000000000000000000000000000000000000000000000 278 },
          { hash := PyData.keyHash P (Str.ofString "common_divisor"),
            key := Value.str (Str.ofString "common_divisor") 289, val := Value.ref 79 },
          { hash := PyData.keyHash P (Str.ofString "fraction"), key := Value.str (Str.ofString "fraction") 299,
            val := Value.ref 87 },
          { hash := PyData.keyHash P (Str.ofString "NumberText"), key := Value.str (Str.ofString "NumberText") 353,
            val := Value.ref 125 },
          { hash := PyData.keyHash P (Str.ofString "whole_of"), key := Value.str (Str.ofString "whole_of") 362,
            val := Value.ref 136 },
          { hash := PyData.keyHash P (Str.ofString "read_exponent"),
            key := Value.str (Str.ofString "read_exponent") 371, val := Value.ref 143 },
          { hash := PyData.keyHash P (Str.ofString "read_decimal"), key := Value.str (Str.ofString "read_decimal") 385,
            val := Value.ref 150 },
          { hash := PyData.keyHash P (Str.ofString "BLANKS"), key := Value.str (Str.ofString "BLANKS") 389,
            val := Value.str (Str.ofString " \t\n\x0d\x0c") 388 },
          { hash := PyData.keyHash P (Str.ofString "DIGITS_path_words"),
            key := Value.str (Str.ofString "DIGITS_path_words") 391, val := Value.str (Str.ofString "0123456789") 390 },
          { hash := PyData.keyHash P (Str.ofString "PathScanner"), key := Value.str (Str.ofString "PathScanner") 505,
            val := Value.ref 244 },
          { hash := PyData.keyHash P (Str.ofString "read_points"), key := Value.str (Str.ofString "read_points") 513,
            val := Value.ref 253 },
          { hash := PyData.keyHash P (Str.ofString "_law_pool"), key := Value.str (Str.ofString "_law_pool") 524,
            val := Value.ref 260 },
          { hash := PyData.keyHash P (Str.ofString "_law_take"), key := Value.str (Str.ofString "_law_take") 533,
            val := Value.ref 267 },
          { hash := PyData.keyHash P (Str.ofString "_law_one"), key := Value.str (Str.ofString "_law_one") 541,
            val := Value.ref 274 },
          { hash := PyData.keyHash P (Str.ofString "_law_spelled"), key := Value.str (Str.ofString "_law_spelled") 548,
            val := Value.ref 281 },
          { hash := PyData.keyHash P (Str.ofString "_law_is_apart"),
            key := Value.str (Str.ofString "_law_is_apart") 556, val := Value.ref 288 },
          { hash := PyData.keyHash P (Str.ofString "_law_drawn"), key := Value.str (Str.ofString "_law_drawn") 570,
            val := Value.ref 295 },
          { hash := PyData.keyHash P (Str.ofString "law"), key := Value.str (Str.ofString "law") 576,
            val := Value.ref 300 }]
        34 }
noncomputable def ho299 : Params → Obj :=
fun P =>
  { cls := Value.none,
    data :=
      Data.fields
        #[Value.int 1 0, Value.int 0 0, Value.ref 20, Value.int 5 0, Value.int 0 0, Value.ref 27, Value.int 9 0,
          Value.int 0 0, Value.ref 47, Value.int 11 0, Value.int 0 0, Value.ref 59, Value.int 21 0, Value.int 0 0,
          Value.ref 78, Value.int 26 0, Value.int 0 0, Value.ref 86, Value.int 33 0, Value.int 0 0, Value.ref 93,
          Value.int 53 0, Value.int 0 0, Value.ref 135, Value.int 58 0, Value.int 0 0, Value.ref 142, Value.int 65 0,
          Value.int 0 0, Value.ref 149, Value.int 84 0, Value.int 0 0, Value.ref 156, Value.int 154 0, Value.int 0 0,
          Value.ref 252, Value.int 165 0, Value.int 0 0, Value.ref 259, Value.int 169 0, Value.int 0 0, Value.ref 266,
          Value.int 176 0, Value.int 0 0, Value.ref 273, Value.int 178 0, Value.int 0 0, Value.ref 280, Value.int 180 0,
          Value.int 0 0, Value.ref 287, Value.int 182 0, Value.int 0 0, Value.ref 294, Value.int 194 0, Value.int 0 0,
          Value.ref 299] }
noncomputable def ho300 : Params → Obj :=
fun P => { cls := Value.type "tuple", data := Data.seq #[] }
noncomputable def ho301 : Params → Obj :=
fun P => { cls := Value.none, data := Data.fields #[] }
noncomputable def ho302 : Params → Obj :=
fun P =>
  { cls := Value.none,
    data :=
      Data.func
        { name := Str.ofString "read_points", qualname := Str.ofString "read_points", params := (fA (at1 21 topB)),
          body := FuncBody.stmts (fB (at1 21 topB)), scope := (fS (at1 21 topB)), globals := 0, closure := [], defaults := Value.none,
          kwdefaults := Value.none } }
noncomputable def ho303 : Params → Obj :=
fun P =>
  { cls := Value.type "code",
    data :=
      Data.fields
        #[Value.str (Str.ofString "read_points") 508, Value.str (Str.ofString "read_points") 509,
          Value.str (Str.ofString "/claim/cut.py") 510, Value.int 154 0, Value.int 1 0, Value.int 0 0, Value.int 0 0,
          Value.int 3 0, Value.ref 249, Value.bool true, Value.int 181 0, Value.ref 250, Value.none, Value.none,
          Value.none, Value.ref 251, Value.int 511 0, Value.int 154 0, Value.str (Str.ofString "/claim/cut.py") 512] }
noncomputable def ho304 : Params → Obj :=
fun P =>
  { cls := Value.type "function",
    data :=
      Data.func
        { name := Str.ofString "read_points", qualname := Str.ofString "read_points", params := (fA (at1 21 topB)),
          body := FuncBody.stmts (fB (at1 21 topB)), scope := (fS (at1 21 topB)), globals := 3, closure := [], defaults := Value.none,
          kwdefaults := Value.none, pyModule := Value.str (Str.ofString "outlinemill.shapes") 506,
          code := Value.ref 252 } }
noncomputable def ho305 : Params → Obj :=
fun P => { cls := Value.type "tuple", data := Data.seq #[] }
noncomputable def ho306 : Params → Obj :=
fun P => { cls := Value.none, data := Data.fields #[] }
noncomputable def ho307 : Params → Obj :=
fun P =>
  { cls := Value.type "tuple",
    data :=
      Data.seq
        #[Value.str (Str.ofString "script") 519, Value.str (Str.ofString "cell") 520,
          Value.str (Str.ofString "great") 521] }
noncomputable def ho308 : Params → Obj :=
fun P => { cls := Value.type "tuple", data := Data.seq #[] }
noncomputable def ho309 : Params → Obj :=
fun P =>
  { cls := Value.none,
    data :=
      Data.func
        { name := Str.ofString "_law_pool", qualname := Str.ofString "_law_pool", params := (fA (at1 23 topB)),
          body := FuncBody.stmts (fB (at1 23 topB)), scope := (fS (at1 23 topB)), globals := 0, closure := [], defaults := Value.none,
          kwdefaults := Value.none } }
noncomputable def ho310 : Params → Obj :=
fun P =>
  { cls := Value.type "code",
    data :=
      Data.fields
        #[Value.str (Str.ofString "_law_pool") 516, Value.str (Str.ofString "_law_pool") 517,
          Value.str (Str.ofString "/claim/cut.py") 518, Value.int 165 0, Value.int 1 0, Value.int 0 0, Value.int 0 0,
          Value.int 3 0, Value.ref 254, Value.bool true, Value.int 181 0, Value.ref 255, Value.none, Value.ref 256,
          Value.ref 257, Value.ref 258, Value.int 522 0, Value.int 165 0,
          Value.str (Str.ofString "/claim/cut.py") 523] }
noncomputable def ho311 : Params → Obj :=
fun P =>
  { cls := Value.type "function",
    data :=
      Data.func
        { name := Str.ofString "_law_pool", qualname := Str.ofString "_law_pool", params := (fA (at1 23 topB)),
          body := FuncBody.stmts (fB (at1 23 topB)), scope := (fS (at1 23 topB)), globals := 3, closure := [], defaults := Value.none,
          kwdefaults := Value.none, pyModule := Value.str (Str.ofString "law_xm0729_01") 514, code := Value.ref 259 } }
noncomputable def ho312 : Params → Obj :=
fun P => { cls := Value.type "tuple", data := Data.seq #[] }
noncomputable def ho313 : Params → Obj :=
fun P => { cls := Value.none, data := Data.fields #[] }
noncomputable def ho314 : Params → Obj :=
fun P =>
  { cls := Value.type "tuple",
    data :=
      Data.seq
        #[Value.str (Str.ofString "source") 528, Value.str (Str.ofString "top") 529,
          Value.str (Str.ofString "figure") 530] }
noncomputable def ho315 : Params → Obj :=
fun P => { cls := Value.type "tuple", data := Data.seq #[] }
noncomputable def ho316 : Params → Obj :=
fun P =>
  { cls := Value.none,
    data :=
      Data.func
        { name := Str.ofString "_law_take", qualname := Str.ofString "_law_take", params := (fA (at1 24 topB)),
          body := FuncBody.stmts (fB (at1 24 topB)), scope := (fS (at1 24 topB)), globals := 0, closure := [], defaults := Value.none,
          kwdefaults := Value.none } }
noncomputable def ho317 : Params → Obj :=
fun P =>
  { cls := Value.type "code",
    data :=
      Data.fields
        #[Value.str (Str.ofString "_law_take") 525, Value.str (Str.ofString "_law_take") 526,
          Value.str (Str.ofString "/claim/cut.py") 527, Value.int 169 0, Value.int 2 0, Value.int 0 0, Value.int 0 0,
          Value.int 3 0, Value.ref 261, Value.bool true, Value.int 181 0, Value.ref 262, Value.none, Value.ref 263,
          Value.ref 264, Value.ref 265, Value.int 531 0, Value.int 169 0,
          Value.str (Str.ofString "/claim/cut.py") 532] }
noncomputable def ho318 : Params → Obj :=
fun P =>
  { cls := Value.type "function",
    data :=
      Data.func
        { name := Str.ofString "_law_take", qualname := Str.ofString "_law_take", params := (fA (at1 24 topB)),
          body := FuncBody.stmts (fB (at1 24 topB)), scope := (fS (at1 24 topB)), globals := 3, closure := [], defaults := Value.none,
          kwdefaults := Value.none, pyModule := Value.str (Str.ofString "law_xm0729_01") 514, code := Value.ref 266 } }
noncomputable def ho319 : Params → Obj :=
fun P => { cls := Value.type "tuple", data := Data.seq #[] }
noncomputable def ho320 : Params → Obj :=
fun P => { cls := Value.none, data := Data.fields #[] }
noncomputable def ho321 : Params → Obj :=
fun P =>
  { cls := Value.type "tuple",
    data := Data.seq #[Value.str (Str.ofString "source") 537, Value.str (Str.ofString "things") 538] }
noncomputable def ho322 : Params → Obj :=
fun P => { cls := Value.type "tuple", data := Data.seq #[] }
noncomputable def ho323 : Params → Obj :=
fun P =>
  { cls := Value.none,
    data :=
      Data.func
        { name := Str.ofString "_law_one", qualname := Str.ofString "_law_one", params := (fA (at1 25 topB)),
          body := FuncBody.stmts (fB (at1 25 topB)), scope := (fS (at1 25 topB)), globals := 0, closure := [], defaults := Value.none,
          kwdefaults := Value.none } }
noncomputable def ho324 : Params → Obj :=
fun P =>
  { cls := Value.type "code",
    data :=
      Data.fields
        #[Value.str (Str.ofString "_law_one") 534, Value.str (Str.ofString "_law_one") 535,
          Value.str (Str.ofString "/claim/cut.py") 536, Value.int 176 0, Value.int 2 0, Value.int 0 0, Value.int 0 0,
          Value.int 3 0, Value.ref 268, Value.bool true, Value.int 181 0, Value.ref 269, Value.none, Value.ref 270,
          Value.ref 271, Value.ref 272, Value.int 539 0, Value.int 176 0,
          Value.str (Str.ofString "/claim/cut.py") 540] }
noncomputable def ho325 : Params → Obj :=
fun P =>
  { cls := Value.type "function",
    data :=
      Data.func
        { name := Str.ofString "_law_one", qualname := Str.ofString "_law_one", params := (fA (at1 25 topB)),
          body := FuncBody.stmts (fB (at1 25 topB)), scope := (fS (at1 25 topB)), globals := 3, closure := [], defaults := Value.none,
          kwdefaults := Value.none, pyModule := Value.str (Str.ofString "law_xm0729_01") 514, code := Value.ref 273 } }
noncomputable def ho326 : Params → Obj :=
fun P => { cls := Value.type "tuple", data := Data.seq #[] }
noncomputable def ho327 : Params → Obj :=
fun P => { cls := Value.none, data := Data.fields #[] }
noncomputable def ho328 : Params → Obj :=
fun P => { cls := Value.type "tuple", data := Data.seq #[Value.str (Str.ofString "source") 545] }
noncomputable def ho329 : Params → Obj :=
fun P => { cls := Value.type "tuple", data := Data.seq #[] }
noncomputable def ho330 : Params → Obj :=
fun P =>
  { cls := Value.none,
    data :=
      Data.func
        { name := Str.ofString "_law_spelled", qualname := Str.ofString "_law_spelled", params := (fA (at1 26 topB)),
          body := FuncBody.stmts (fB (at1 26 topB)), scope := (fS (at1 26 topB)), globals := 0, closure := [], defaults := Value.none,
          kwdefaults := Value.none } }
noncomputable def ho331 : Params → Obj :=
fun P =>
  { cls := Value.type "code",
    data :=
      Data.fields
        #[Value.str (Str.ofString "_law_spelled") 542, Value.str (Str.ofString "_law_spelled") 543,
          Value.str (Str.ofString "/claim/cut.py") 544, Value.int 178 0, Value.int 1 0, Value.int 0 0, Value.int 0 0,
          Value.int 3 0, Value.ref 275, Value.bool true, Value.int 181 0, Value.ref 276, Value.none, Value.ref 277,
          Value.ref 278, Value.ref 279, Value.int 546 0, Value.int 178 0,
          Value.str (Str.ofString "/claim/cut.py") 547] }
noncomputable def ho332 : Params → Obj :=
fun P =>
  { cls := Value.type "function",
    data :=
      Data.func
        { name := Str.ofString "_law_spelled", qualname := Str.ofString "_law_spelled", params := (fA (at1 26 topB)),
          body := FuncBody.stmts (fB (at1 26 topB)), scope := (fS (at1 26 topB)), globals := 3, closure := [], defaults := Value.none,
          kwdefaults := Value.none, pyModule := Value.str (Str.ofString "law_xm0729_01") 514, code := Value.ref 280 } }
noncomputable def ho333 : Params → Obj :=
fun P => { cls := Value.type "tuple", data := Data.seq #[] }
noncomputable def ho334 : Params → Obj :=
fun P => { cls := Value.none, data := Data.fields #[] }
noncomputable def ho335 : Params → Obj :=
fun P =>
  { cls := Value.type "tuple",
    data := Data.seq #[Value.str (Str.ofString "ahead") 552, Value.str (Str.ofString "word") 553] }
noncomputable def ho336 : Params → Obj :=
fun P => { cls := Value.type "tuple", data := Data.seq #[] }
noncomputable def ho337 : Params → Obj :=
fun P =>
  { cls := Value.none,
    data :=
      Data.func
        { name := Str.ofString "_law_is_apart", qualname := Str.ofString "_law_is_apart", params := (fA (at1 27 topB)),
          body := FuncBody.stmts (fB (at1 27 topB)), scope := (fS (at1 27 topB)), globals := 0, closure := [], defaults := Value.none,
          kwdefaults := Value.none } }
noncomputable def ho338 : Params → Obj :=
fun P =>
  { cls := Value.type "code",
    data :=
      Data.fields
        #[Value.str (Str.ofString "_law_is_apart") 549, Value.str (Str.ofString "_law_is_apart") 550,
          Value.str (Str.ofString "/claim/cut.py") 551, Value.int 180 0, Value.int 2 0, Value.int 0 0, Value.int 0 0,
          Value.int 3 0, Value.ref 282, Value.bool true, Value.int 181 0, Value.ref 283, Value.none, Value.ref 284,
          Value.ref 285, Value.ref 286, Value.int 554 0, Value.int 180 0,
          Value.str (Str.ofString "/claim/cut.py") 555] }
noncomputable def ho339 : Params → Obj :=
fun P =>
  { cls := Value.type "function",
    data :=
      Data.func
        { name := Str.ofString "_law_is_apart", qualname := Str.ofString "_law_is_apart", params := (fA (at1 27 topB)),
          body := FuncBody.stmts (fB (at1 27 topB)), scope := (fS (at1 27 topB)), globals := 3, closure := [], defaults := Value.none,
          kwdefaults := Value.none, pyModule := Value.str (Str.ofString "law_xm0729_01") 514, code := Value.ref 287 } }
noncomputable def ho340 : Params → Obj :=
fun P => { cls := Value.type "tuple", data := Data.seq #[] }
noncomputable def ho341 : Params → Obj :=
fun P => { cls := Value.none, data := Data.fields #[] }
noncomputable def ho342 : Params → Obj :=
fun P =>
  { cls := Value.type "tuple",
    data :=
      Data.seq
        #[Value.str (Str.ofString "source") 560, Value.str (Str.ofString "text") 561,
          Value.str (Str.ofString "last") 562, Value.str (Str.ofString "found") 563,
          Value.str (Str.ofString "turn") 564, Value.str (Str.ofString "word") 565,
          Value.str (Str.ofString "number") 566, Value.str (Str.ofString "gap") 567] }
noncomputable def ho343 : Params → Obj :=
fun P => { cls := Value.type "tuple", data := Data.seq #[] }
noncomputable def ho344 : Params → Obj :=
fun P =>
  { cls := Value.none,
    data :=
      Data.func
        { name := Str.ofString "_law_drawn", qualname := Str.ofString "_law_drawn", params := (fA (at1 28 topB)),
          body := FuncBody.stmts (fB (at1 28 topB)), scope := (fS (at1 28 topB)), globals := 0, closure := [], defaults := Value.none,
          kwdefaults := Value.none } }
noncomputable def ho345 : Params → Obj :=
fun P =>
  { cls := Value.type "code",
    data :=
      Data.fields
        #[Value.str (Str.ofString "_law_drawn") 557, Value.str (Str.ofString "_law_drawn") 558,
          Value.str (Str.ofString "/claim/cut.py") 559, Value.int 182 0, Value.int 1 0, Value.int 0 0, Value.int 0 0,
          Value.int 3 0, Value.ref 289, Value.bool true, Value.int 181 0, Value.ref 290, Value.none, Value.ref 291,
          Value.ref 292, Value.ref 293, Value.int 568 0, Value.int 182 0,
          Value.str (Str.ofString "/claim/cut.py") 569] }
noncomputable def ho346 : Params → Obj :=
fun P =>
  { cls := Value.type "function",
    data :=
      Data.func
        { name := Str.ofString "_law_drawn", qualname := Str.ofString "_law_drawn", params := (fA (at1 28 topB)),
          body := FuncBody.stmts (fB (at1 28 topB)), scope := (fS (at1 28 topB)), globals := 3, closure := [], defaults := Value.none,
          kwdefaults := Value.none, pyModule := Value.str (Str.ofString "law_xm0729_01") 514, code := Value.ref 294 } }
noncomputable def ho347 : Params → Obj :=
fun P => { cls := Value.type "tuple", data := Data.seq #[] }
noncomputable def ho348 : Params → Obj :=
fun P => { cls := Value.none, data := Data.fields #[] }
noncomputable def ho349 : Params → Obj :=
fun P =>
  { cls := Value.none,
    data :=
      Data.func
        { name := Str.ofString "law", qualname := Str.ofString "law", params := (fA (at1 29 topB)), body := FuncBody.stmts (fB (at1 29 topB)),
          scope := (fS (at1 29 topB)), globals := 0, closure := [], defaults := Value.none, kwdefaults := Value.none } }
noncomputable def ho350 : Params → Obj :=
fun P =>
  { cls := Value.type "code",
    data :=
      Data.fields
        #[Value.str (Str.ofString "law") 571, Value.str (Str.ofString "law") 572,
          Value.str (Str.ofString "/claim/cut.py") 573, Value.int 194 0, Value.int 1 0, Value.int 0 0, Value.int 0 0,
          Value.int 3 0, Value.ref 296, Value.bool true, Value.int 181 0, Value.ref 297, Value.none, Value.none,
          Value.none, Value.ref 298, Value.int 574 0, Value.int 194 0, Value.str (Str.ofString "/claim/cut.py") 575] }
noncomputable def ho351 : Params → Obj :=
fun P =>
  { cls := Value.type "function",
    data :=
      Data.func
        { name := Str.ofString "law", qualname := Str.ofString "law", params := (fA (at1 29 topB)), body := FuncBody.stmts (fB (at1 29 topB)),
          scope := (fS (at1 29 topB)), globals := 3, closure := [], defaults := Value.none, kwdefaults := Value.none,
          pyModule := Value.str (Str.ofString "law_xm0729_01") 514, code := Value.ref 299 } }
noncomputable def henv41 : Env :=
{ scope := Challenge.rw_xm0729_01.row.toRowW.prog.main.scope, locals := mainNs, globals := mainNs, cells := [],
  code := Value.ref 13, frame := some 14 }
noncomputable def hheap46 : Params → Heap :=
fun P =>
  {
    objs :=
      {
        toList :=
          [boot_o_0 P, boot_o_1 P, boot_o_2 P, boot_o_3 P, boot_o_4 P, boot_o_5 P, boot_o_6 P, boot_o_7 P, boot_o_8 P,
            boot_o_9 P, boot_o_10 P, Mine.ho43 P, Mine.ho44 P, Mine.ho45 P, Mine.ho46 P] } }
noncomputable def htree47 : Params → BT :=
fun P =>
  BT.node (boot_o_0 P)
    (BT.node (boot_o_1 P)
      (BT.node (boot_o_3 P) (BT.node (boot_o_7 P) BT.nil BT.nil) (BT.node (Mine.ho43 P) BT.nil BT.nil))
      (BT.node (boot_o_5 P) (BT.node (boot_o_9 P) BT.nil BT.nil) (BT.node (Mine.ho45 P) BT.nil BT.nil)))
    (BT.node (boot_o_2 P)
      (BT.node (boot_o_4 P) (BT.node (boot_o_8 P) BT.nil BT.nil) (BT.node (Mine.ho44 P) BT.nil BT.nil))
      (BT.node (boot_o_6 P) (BT.node (boot_o_10 P) BT.nil BT.nil) (BT.node (Mine.ho46 P) BT.nil BT.nil)))
noncomputable def htree78 : Params → BT :=
fun P =>
  BT.node (boot_o_0 P)
    (BT.node (boot_o_1 P)
      (BT.node (Mine.ho50 P)
        (BT.node (boot_o_7 P) (BT.node (Mine.ho52 P) (BT.node (Mine.ho68 P) BT.nil BT.nil) BT.nil)
          (BT.node (Mine.ho60 P) (BT.node (Mine.ho76 P) BT.nil BT.nil) BT.nil))
        (BT.node (Mine.ho43 P) (BT.node (Mine.ho56 P) (BT.node (Mine.ho72 P) BT.nil BT.nil) BT.nil)
          (BT.node (Mine.ho64 P) BT.nil BT.nil)))
      (BT.node (boot_o_5 P)
        (BT.node (boot_o_9 P) (BT.node (Mine.ho54 P) (BT.node (Mine.ho70 P) BT.nil BT.nil) BT.nil)
          (BT.node (Mine.ho62 P) (BT.node (Mine.ho78 P) BT.nil BT.nil) BT.nil))
        (BT.node (Mine.ho45 P) (BT.node (Mine.ho58 P) (BT.node (Mine.ho74 P) BT.nil BT.nil) BT.nil)
          (BT.node (Mine.ho66 P) BT.nil BT.nil))))
    (BT.node (Mine.ho49 P)
      (BT.node (boot_o_4 P)
        (BT.node (boot_o_8 P) (BT.node (Mine.ho53 P) (BT.node (Mine.ho69 P) BT.nil BT.nil) BT.nil)
          (BT.node (Mine.ho61 P) (BT.node (Mine.ho77 P) BT.nil BT.nil) BT.nil))
        (BT.node (Mine.ho51 P) (BT.node (Mine.ho57 P) (BT.node (Mine.ho73 P) BT.nil BT.nil) BT.nil)
          (BT.node (Mine.ho65 P) BT.nil BT.nil)))
      (BT.node (boot_o_6 P)
        (BT.node (boot_o_10 P) (BT.node (Mine.ho55 P) (BT.node (Mine.ho71 P) BT.nil BT.nil) BT.nil)
          (BT.node (Mine.ho63 P) BT.nil BT.nil))
        (BT.node (Mine.ho46 P) (BT.node (Mine.ho59 P) (BT.node (Mine.ho75 P) BT.nil BT.nil) BT.nil)
          (BT.node (Mine.ho67 P) BT.nil BT.nil))))
noncomputable def htree93 : Params → BT :=
fun P =>
  BT.node (boot_o_0 P)
    (BT.node (boot_o_1 P)
      (BT.node (Mine.ho79 P)
        (BT.node (boot_o_7 P)
          (BT.node (Mine.ho52 P) (BT.node (Mine.ho68 P) BT.nil BT.nil) (BT.node (Mine.ho87 P) BT.nil BT.nil))
          (BT.node (Mine.ho60 P) (BT.node (Mine.ho76 P) BT.nil BT.nil) BT.nil))
        (BT.node (Mine.ho43 P)
          (BT.node (Mine.ho56 P) (BT.node (Mine.ho72 P) BT.nil BT.nil) (BT.node (Mine.ho91 P) BT.nil BT.nil))
          (BT.node (Mine.ho64 P) (BT.node (Mine.ho83 P) BT.nil BT.nil) BT.nil)))
      (BT.node (boot_o_5 P)
        (BT.node (boot_o_9 P)
          (BT.node (Mine.ho54 P) (BT.node (Mine.ho70 P) BT.nil BT.nil) (BT.node (Mine.ho89 P) BT.nil BT.nil))
          (BT.node (Mine.ho62 P) (BT.node (Mine.ho78 P) BT.nil BT.nil) BT.nil))
        (BT.node (Mine.ho45 P)
          (BT.node (Mine.ho58 P) (BT.node (Mine.ho74 P) BT.nil BT.nil) (BT.node (Mine.ho93 P) BT.nil BT.nil))
          (BT.node (Mine.ho66 P) (BT.node (Mine.ho85 P) BT.nil BT.nil) BT.nil))))
    (BT.node (Mine.ho49 P)
      (BT.node (boot_o_4 P)
        (BT.node (boot_o_8 P)
          (BT.node (Mine.ho53 P) (BT.node (Mine.ho69 P) BT.nil BT.nil) (BT.node (Mine.ho88 P) BT.nil BT.nil))
          (BT.node (Mine.ho61 P) (BT.node (Mine.ho77 P) BT.nil BT.nil) BT.nil))
        (BT.node (Mine.ho80 P)
          (BT.node (Mine.ho57 P) (BT.node (Mine.ho73 P) BT.nil BT.nil) (BT.node (Mine.ho92 P) BT.nil BT.nil))
          (BT.node (Mine.ho65 P) (BT.node (Mine.ho84 P) BT.nil BT.nil) BT.nil)))
      (BT.node (boot_o_6 P)
        (BT.node (boot_o_10 P)
          (BT.node (Mine.ho55 P) (BT.node (Mine.ho71 P) BT.nil BT.nil) (BT.node (Mine.ho90 P) BT.nil BT.nil))
          (BT.node (Mine.ho63 P) (BT.node (Mine.ho82 P) BT.nil BT.nil) BT.nil))
        (BT.node (Mine.ho46 P) (BT.node (Mine.ho59 P) (BT.node (Mine.ho81 P) BT.nil BT.nil) BT.nil)
          (BT.node (Mine.ho67 P) (BT.node (Mine.ho86 P) BT.nil BT.nil) BT.nil))))
noncomputable def htree130 : Params → BT :=
fun P =>
  BT.node (boot_o_0 P)
    (BT.node (boot_o_1 P)
      (BT.node (Mine.ho94 P)
        (BT.node (boot_o_7 P)
          (BT.node (Mine.ho52 P) (BT.node (Mine.ho68 P) (BT.node (Mine.ho106 P) BT.nil BT.nil) BT.nil)
            (BT.node (Mine.ho87 P) (BT.node (Mine.ho122 P) BT.nil BT.nil) BT.nil))
          (BT.node (Mine.ho60 P) (BT.node (Mine.ho76 P) (BT.node (Mine.ho114 P) BT.nil BT.nil) BT.nil)
            (BT.node (Mine.ho98 P) (BT.node (Mine.ho130 P) BT.nil BT.nil) BT.nil)))
        (BT.node (Mine.ho43 P)
          (BT.node (Mine.ho56 P) (BT.node (Mine.ho72 P) (BT.node (Mine.ho110 P) BT.nil BT.nil) BT.nil)
            (BT.node (Mine.ho91 P) (BT.node (Mine.ho126 P) BT.nil BT.nil) BT.nil))
          (BT.node (Mine.ho64 P) (BT.node (Mine.ho83 P) (BT.node (Mine.ho118 P) BT.nil BT.nil) BT.nil)
            (BT.node (Mine.ho102 P) BT.nil BT.nil))))
      (BT.node (boot_o_5 P)
        (BT.node (boot_o_9 P)
          (BT.node (Mine.ho54 P) (BT.node (Mine.ho70 P) (BT.node (Mine.ho108 P) BT.nil BT.nil) BT.nil)
            (BT.node (Mine.ho89 P) (BT.node (Mine.ho124 P) BT.nil BT.nil) BT.nil))
          (BT.node (Mine.ho62 P) (BT.node (Mine.ho78 P) (BT.node (Mine.ho116 P) BT.nil BT.nil) BT.nil)
            (BT.node (Mine.ho100 P) BT.nil BT.nil)))
        (BT.node (Mine.ho45 P)
          (BT.node (Mine.ho58 P) (BT.node (Mine.ho74 P) (BT.node (Mine.ho112 P) BT.nil BT.nil) BT.nil)
            (BT.node (Mine.ho93 P) (BT.node (Mine.ho128 P) BT.nil BT.nil) BT.nil))
          (BT.node (Mine.ho66 P) (BT.node (Mine.ho85 P) (BT.node (Mine.ho120 P) BT.nil BT.nil) BT.nil)
            (BT.node (Mine.ho104 P) BT.nil BT.nil)))))
    (BT.node (Mine.ho49 P)
      (BT.node (boot_o_4 P)
        (BT.node (boot_o_8 P)
          (BT.node (Mine.ho53 P) (BT.node (Mine.ho69 P) (BT.node (Mine.ho107 P) BT.nil BT.nil) BT.nil)
            (BT.node (Mine.ho88 P) (BT.node (Mine.ho123 P) BT.nil BT.nil) BT.nil))
          (BT.node (Mine.ho61 P) (BT.node (Mine.ho77 P) (BT.node (Mine.ho115 P) BT.nil BT.nil) BT.nil)
            (BT.node (Mine.ho99 P) BT.nil BT.nil)))
        (BT.node (Mine.ho95 P)
          (BT.node (Mine.ho57 P) (BT.node (Mine.ho73 P) (BT.node (Mine.ho111 P) BT.nil BT.nil) BT.nil)
            (BT.node (Mine.ho92 P) (BT.node (Mine.ho127 P) BT.nil BT.nil) BT.nil))
          (BT.node (Mine.ho65 P) (BT.node (Mine.ho84 P) (BT.node (Mine.ho119 P) BT.nil BT.nil) BT.nil)
            (BT.node (Mine.ho103 P) BT.nil BT.nil))))
      (BT.node (boot_o_6 P)
        (BT.node (boot_o_10 P)
          (BT.node (Mine.ho55 P) (BT.node (Mine.ho71 P) (BT.node (Mine.ho109 P) BT.nil BT.nil) BT.nil)
            (BT.node (Mine.ho90 P) (BT.node (Mine.ho125 P) BT.nil BT.nil) BT.nil))
          (BT.node (Mine.ho63 P) (BT.node (Mine.ho82 P) (BT.node (Mine.ho117 P) BT.nil BT.nil) BT.nil)
            (BT.node (Mine.ho101 P) BT.nil BT.nil)))
        (BT.node (Mine.ho46 P)
          (BT.node (Mine.ho59 P) (BT.node (Mine.ho96 P) (BT.node (Mine.ho113 P) BT.nil BT.nil) BT.nil)
            (BT.node (Mine.ho97 P) (BT.node (Mine.ho129 P) BT.nil BT.nil) BT.nil))
          (BT.node (Mine.ho67 P) (BT.node (Mine.ho86 P) (BT.node (Mine.ho121 P) BT.nil BT.nil) BT.nil)
            (BT.node (Mine.ho105 P) BT.nil BT.nil)))))
noncomputable def htree188 : Params → BT :=
fun P =>
  BT.node (boot_o_0 P)
    (BT.node (boot_o_1 P)
      (BT.node (Mine.ho131 P)
        (BT.node (boot_o_7 P)
          (BT.node (Mine.ho52 P)
            (BT.node (Mine.ho68 P) (BT.node (Mine.ho106 P) (BT.node (Mine.ho172 P) BT.nil BT.nil) BT.nil)
              (BT.node (Mine.ho140 P) BT.nil BT.nil))
            (BT.node (Mine.ho87 P) (BT.node (Mine.ho122 P) (BT.node (Mine.ho188 P) BT.nil BT.nil) BT.nil)
              (BT.node (Mine.ho156 P) BT.nil BT.nil)))
          (BT.node (Mine.ho60 P)
            (BT.node (Mine.ho76 P) (BT.node (Mine.ho114 P) (BT.node (Mine.ho180 P) BT.nil BT.nil) BT.nil)
              (BT.node (Mine.ho148 P) BT.nil BT.nil))
            (BT.node (Mine.ho98 P) (BT.node (Mine.ho130 P) BT.nil BT.nil) (BT.node (Mine.ho164 P) BT.nil BT.nil))))
        (BT.node (Mine.ho43 P)
          (BT.node (Mine.ho56 P)
            (BT.node (Mine.ho72 P) (BT.node (Mine.ho110 P) (BT.node (Mine.ho176 P) BT.nil BT.nil) BT.nil)
              (BT.node (Mine.ho144 P) BT.nil BT.nil))
            (BT.node (Mine.ho91 P) (BT.node (Mine.ho126 P) BT.nil BT.nil) (BT.node (Mine.ho160 P) BT.nil BT.nil)))
          (BT.node (Mine.ho64 P)
            (BT.node (Mine.ho83 P) (BT.node (Mine.ho118 P) (BT.node (Mine.ho184 P) BT.nil BT.nil) BT.nil)
              (BT.node (Mine.ho152 P) BT.nil BT.nil))
            (BT.node (Mine.ho102 P) (BT.node (Mine.ho136 P) BT.nil BT.nil) (BT.node (Mine.ho168 P) BT.nil BT.nil)))))
      (BT.node (boot_o_5 P)
        (BT.node (boot_o_9 P)
          (BT.node (Mine.ho54 P)
            (BT.node (Mine.ho70 P) (BT.node (Mine.ho108 P) (BT.node (Mine.ho174 P) BT.nil BT.nil) BT.nil)
              (BT.node (Mine.ho142 P) BT.nil BT.nil))
            (BT.node (Mine.ho89 P) (BT.node (Mine.ho124 P) BT.nil BT.nil) (BT.node (Mine.ho158 P) BT.nil BT.nil)))
          (BT.node (Mine.ho62 P)
            (BT.node (Mine.ho78 P) (BT.node (Mine.ho116 P) (BT.node (Mine.ho182 P) BT.nil BT.nil) BT.nil)
              (BT.node (Mine.ho150 P) BT.nil BT.nil))
            (BT.node (Mine.ho100 P) (BT.node (Mine.ho134 P) BT.nil BT.nil) (BT.node (Mine.ho166 P) BT.nil BT.nil))))
        (BT.node (Mine.ho45 P)
          (BT.node (Mine.ho58 P)
            (BT.node (Mine.ho74 P) (BT.node (Mine.ho112 P) (BT.node (Mine.ho178 P) BT.nil BT.nil) BT.nil)
              (BT.node (Mine.ho146 P) BT.nil BT.nil))
            (BT.node (Mine.ho93 P) (BT.node (Mine.ho128 P) BT.nil BT.nil) (BT.node (Mine.ho162 P) BT.nil BT.nil)))
          (BT.node (Mine.ho66 P)
            (BT.node (Mine.ho85 P) (BT.node (Mine.ho120 P) (BT.node (Mine.ho186 P) BT.nil BT.nil) BT.nil)
              (BT.node (Mine.ho154 P) BT.nil BT.nil))
            (BT.node (Mine.ho104 P) (BT.node (Mine.ho138 P) BT.nil BT.nil) (BT.node (Mine.ho170 P) BT.nil BT.nil))))))
    (BT.node (Mine.ho49 P)
      (BT.node (boot_o_4 P)
        (BT.node (boot_o_8 P)
          (BT.node (Mine.ho53 P)
            (BT.node (Mine.ho69 P) (BT.node (Mine.ho107 P) (BT.node (Mine.ho173 P) BT.nil BT.nil) BT.nil)
              (BT.node (Mine.ho141 P) BT.nil BT.nil))
            (BT.node (Mine.ho88 P) (BT.node (Mine.ho123 P) BT.nil BT.nil) (BT.node (Mine.ho157 P) BT.nil BT.nil)))
          (BT.node (Mine.ho61 P)
            (BT.node (Mine.ho77 P) (BT.node (Mine.ho115 P) (BT.node (Mine.ho181 P) BT.nil BT.nil) BT.nil)
              (BT.node (Mine.ho149 P) BT.nil BT.nil))
            (BT.node (Mine.ho99 P) (BT.node (Mine.ho133 P) BT.nil BT.nil) (BT.node (Mine.ho165 P) BT.nil BT.nil))))
        (BT.node (Mine.ho132 P)
          (BT.node (Mine.ho57 P)
            (BT.node (Mine.ho73 P) (BT.node (Mine.ho111 P) (BT.node (Mine.ho177 P) BT.nil BT.nil) BT.nil)
              (BT.node (Mine.ho145 P) BT.nil BT.nil))
            (BT.node (Mine.ho92 P) (BT.node (Mine.ho127 P) BT.nil BT.nil) (BT.node (Mine.ho161 P) BT.nil BT.nil)))
          (BT.node (Mine.ho65 P)
            (BT.node (Mine.ho84 P) (BT.node (Mine.ho119 P) (BT.node (Mine.ho185 P) BT.nil BT.nil) BT.nil)
              (BT.node (Mine.ho153 P) BT.nil BT.nil))
            (BT.node (Mine.ho103 P) (BT.node (Mine.ho137 P) BT.nil BT.nil) (BT.node (Mine.ho169 P) BT.nil BT.nil)))))
      (BT.node (boot_o_6 P)
        (BT.node (boot_o_10 P)
          (BT.node (Mine.ho55 P)
            (BT.node (Mine.ho71 P) (BT.node (Mine.ho109 P) (BT.node (Mine.ho175 P) BT.nil BT.nil) BT.nil)
              (BT.node (Mine.ho143 P) BT.nil BT.nil))
            (BT.node (Mine.ho90 P) (BT.node (Mine.ho125 P) BT.nil BT.nil) (BT.node (Mine.ho159 P) BT.nil BT.nil)))
          (BT.node (Mine.ho63 P)
            (BT.node (Mine.ho82 P) (BT.node (Mine.ho117 P) (BT.node (Mine.ho183 P) BT.nil BT.nil) BT.nil)
              (BT.node (Mine.ho151 P) BT.nil BT.nil))
            (BT.node (Mine.ho101 P) (BT.node (Mine.ho135 P) BT.nil BT.nil) (BT.node (Mine.ho167 P) BT.nil BT.nil))))
        (BT.node (Mine.ho46 P)
          (BT.node (Mine.ho59 P)
            (BT.node (Mine.ho96 P) (BT.node (Mine.ho113 P) (BT.node (Mine.ho179 P) BT.nil BT.nil) BT.nil)
              (BT.node (Mine.ho147 P) BT.nil BT.nil))
            (BT.node (Mine.ho97 P) (BT.node (Mine.ho129 P) BT.nil BT.nil) (BT.node (Mine.ho163 P) BT.nil BT.nil)))
          (BT.node (Mine.ho67 P)
            (BT.node (Mine.ho86 P) (BT.node (Mine.ho121 P) (BT.node (Mine.ho187 P) BT.nil BT.nil) BT.nil)
              (BT.node (Mine.ho155 P) BT.nil BT.nil))
            (BT.node (Mine.ho105 P) (BT.node (Mine.ho139 P) BT.nil BT.nil) (BT.node (Mine.ho171 P) BT.nil BT.nil))))))
noncomputable def htree197 : Params → BT :=
fun P =>
  BT.node (boot_o_0 P)
    (BT.node (boot_o_1 P)
      (BT.node (Mine.ho189 P)
        (BT.node (boot_o_7 P)
          (BT.node (Mine.ho52 P)
            (BT.node (Mine.ho68 P) (BT.node (Mine.ho106 P) (BT.node (Mine.ho172 P) BT.nil BT.nil) BT.nil)
              (BT.node (Mine.ho140 P) BT.nil BT.nil))
            (BT.node (Mine.ho87 P) (BT.node (Mine.ho122 P) (BT.node (Mine.ho188 P) BT.nil BT.nil) BT.nil)
              (BT.node (Mine.ho156 P) BT.nil BT.nil)))
          (BT.node (Mine.ho60 P)
            (BT.node (Mine.ho76 P) (BT.node (Mine.ho114 P) (BT.node (Mine.ho180 P) BT.nil BT.nil) BT.nil)
              (BT.node (Mine.ho148 P) BT.nil BT.nil))
            (BT.node (Mine.ho98 P) (BT.node (Mine.ho130 P) BT.nil BT.nil) (BT.node (Mine.ho164 P) BT.nil BT.nil))))
        (BT.node (Mine.ho43 P)
          (BT.node (Mine.ho56 P)
            (BT.node (Mine.ho72 P) (BT.node (Mine.ho110 P) (BT.node (Mine.ho176 P) BT.nil BT.nil) BT.nil)
              (BT.node (Mine.ho144 P) BT.nil BT.nil))
            (BT.node (Mine.ho91 P) (BT.node (Mine.ho126 P) (BT.node (Mine.ho194 P) BT.nil BT.nil) BT.nil)
              (BT.node (Mine.ho160 P) BT.nil BT.nil)))
          (BT.node (Mine.ho64 P)
            (BT.node (Mine.ho83 P) (BT.node (Mine.ho118 P) (BT.node (Mine.ho184 P) BT.nil BT.nil) BT.nil)
              (BT.node (Mine.ho152 P) BT.nil BT.nil))
            (BT.node (Mine.ho102 P) (BT.node (Mine.ho136 P) BT.nil BT.nil) (BT.node (Mine.ho168 P) BT.nil BT.nil)))))
      (BT.node (boot_o_5 P)
        (BT.node (boot_o_9 P)
          (BT.node (Mine.ho54 P)
            (BT.node (Mine.ho70 P) (BT.node (Mine.ho108 P) (BT.node (Mine.ho174 P) BT.nil BT.nil) BT.nil)
              (BT.node (Mine.ho142 P) BT.nil BT.nil))
            (BT.node (Mine.ho89 P) (BT.node (Mine.ho124 P) (BT.node (Mine.ho192 P) BT.nil BT.nil) BT.nil)
              (BT.node (Mine.ho158 P) BT.nil BT.nil)))
          (BT.node (Mine.ho62 P)
            (BT.node (Mine.ho78 P) (BT.node (Mine.ho116 P) (BT.node (Mine.ho182 P) BT.nil BT.nil) BT.nil)
              (BT.node (Mine.ho150 P) BT.nil BT.nil))
            (BT.node (Mine.ho100 P) (BT.node (Mine.ho134 P) BT.nil BT.nil) (BT.node (Mine.ho166 P) BT.nil BT.nil))))
        (BT.node (Mine.ho45 P)
          (BT.node (Mine.ho58 P)
            (BT.node (Mine.ho74 P) (BT.node (Mine.ho112 P) (BT.node (Mine.ho178 P) BT.nil BT.nil) BT.nil)
              (BT.node (Mine.ho146 P) BT.nil BT.nil))
            (BT.node (Mine.ho93 P) (BT.node (Mine.ho128 P) (BT.node (Mine.ho196 P) BT.nil BT.nil) BT.nil)
              (BT.node (Mine.ho162 P) BT.nil BT.nil)))
          (BT.node (Mine.ho66 P)
            (BT.node (Mine.ho85 P) (BT.node (Mine.ho120 P) (BT.node (Mine.ho186 P) BT.nil BT.nil) BT.nil)
              (BT.node (Mine.ho154 P) BT.nil BT.nil))
            (BT.node (Mine.ho104 P) (BT.node (Mine.ho138 P) BT.nil BT.nil) (BT.node (Mine.ho170 P) BT.nil BT.nil))))))
    (BT.node (Mine.ho49 P)
      (BT.node (boot_o_4 P)
        (BT.node (boot_o_8 P)
          (BT.node (Mine.ho53 P)
            (BT.node (Mine.ho69 P) (BT.node (Mine.ho107 P) (BT.node (Mine.ho173 P) BT.nil BT.nil) BT.nil)
              (BT.node (Mine.ho141 P) BT.nil BT.nil))
            (BT.node (Mine.ho88 P) (BT.node (Mine.ho123 P) (BT.node (Mine.ho191 P) BT.nil BT.nil) BT.nil)
              (BT.node (Mine.ho157 P) BT.nil BT.nil)))
          (BT.node (Mine.ho61 P)
            (BT.node (Mine.ho77 P) (BT.node (Mine.ho115 P) (BT.node (Mine.ho181 P) BT.nil BT.nil) BT.nil)
              (BT.node (Mine.ho149 P) BT.nil BT.nil))
            (BT.node (Mine.ho99 P) (BT.node (Mine.ho133 P) BT.nil BT.nil) (BT.node (Mine.ho165 P) BT.nil BT.nil))))
        (BT.node (Mine.ho190 P)
          (BT.node (Mine.ho57 P)
            (BT.node (Mine.ho73 P) (BT.node (Mine.ho111 P) (BT.node (Mine.ho177 P) BT.nil BT.nil) BT.nil)
              (BT.node (Mine.ho145 P) BT.nil BT.nil))
            (BT.node (Mine.ho92 P) (BT.node (Mine.ho127 P) (BT.node (Mine.ho195 P) BT.nil BT.nil) BT.nil)
              (BT.node (Mine.ho161 P) BT.nil BT.nil)))
          (BT.node (Mine.ho65 P)
            (BT.node (Mine.ho84 P) (BT.node (Mine.ho119 P) (BT.node (Mine.ho185 P) BT.nil BT.nil) BT.nil)
              (BT.node (Mine.ho153 P) BT.nil BT.nil))
            (BT.node (Mine.ho103 P) (BT.node (Mine.ho137 P) BT.nil BT.nil) (BT.node (Mine.ho169 P) BT.nil BT.nil)))))
      (BT.node (boot_o_6 P)
        (BT.node (boot_o_10 P)
          (BT.node (Mine.ho55 P)
            (BT.node (Mine.ho71 P) (BT.node (Mine.ho109 P) (BT.node (Mine.ho175 P) BT.nil BT.nil) BT.nil)
              (BT.node (Mine.ho143 P) BT.nil BT.nil))
            (BT.node (Mine.ho90 P) (BT.node (Mine.ho125 P) (BT.node (Mine.ho193 P) BT.nil BT.nil) BT.nil)
              (BT.node (Mine.ho159 P) BT.nil BT.nil)))
          (BT.node (Mine.ho63 P)
            (BT.node (Mine.ho82 P) (BT.node (Mine.ho117 P) (BT.node (Mine.ho183 P) BT.nil BT.nil) BT.nil)
              (BT.node (Mine.ho151 P) BT.nil BT.nil))
            (BT.node (Mine.ho101 P) (BT.node (Mine.ho135 P) BT.nil BT.nil) (BT.node (Mine.ho167 P) BT.nil BT.nil))))
        (BT.node (Mine.ho46 P)
          (BT.node (Mine.ho59 P)
            (BT.node (Mine.ho96 P) (BT.node (Mine.ho113 P) (BT.node (Mine.ho179 P) BT.nil BT.nil) BT.nil)
              (BT.node (Mine.ho147 P) BT.nil BT.nil))
            (BT.node (Mine.ho97 P) (BT.node (Mine.ho129 P) (BT.node (Mine.ho197 P) BT.nil BT.nil) BT.nil)
              (BT.node (Mine.ho163 P) BT.nil BT.nil)))
          (BT.node (Mine.ho67 P)
            (BT.node (Mine.ho86 P) (BT.node (Mine.ho121 P) (BT.node (Mine.ho187 P) BT.nil BT.nil) BT.nil)
              (BT.node (Mine.ho155 P) BT.nil BT.nil))
            (BT.node (Mine.ho105 P) (BT.node (Mine.ho139 P) BT.nil BT.nil) (BT.node (Mine.ho171 P) BT.nil BT.nil))))))
noncomputable def htree297 : Params → BT :=
fun P =>
  BT.node (boot_o_0 P)
    (BT.node (boot_o_1 P)
      (BT.node (Mine.ho198 P)
        (BT.node (boot_o_7 P)
          (BT.node (Mine.ho52 P)
            (BT.node (Mine.ho68 P)
              (BT.node (Mine.ho106 P) (BT.node (Mine.ho172 P) BT.nil BT.nil) (BT.node (Mine.ho240 P) BT.nil BT.nil))
              (BT.node (Mine.ho140 P) (BT.node (Mine.ho208 P) BT.nil BT.nil) (BT.node (Mine.ho272 P) BT.nil BT.nil)))
            (BT.node (Mine.ho87 P)
              (BT.node (Mine.ho122 P) (BT.node (Mine.ho188 P) BT.nil BT.nil) (BT.node (Mine.ho256 P) BT.nil BT.nil))
              (BT.node (Mine.ho156 P) (BT.node (Mine.ho224 P) BT.nil BT.nil) (BT.node (Mine.ho288 P) BT.nil BT.nil))))
          (BT.node (Mine.ho60 P)
            (BT.node (Mine.ho76 P)
              (BT.node (Mine.ho114 P) (BT.node (Mine.ho180 P) BT.nil BT.nil) (BT.node (Mine.ho248 P) BT.nil BT.nil))
              (BT.node (Mine.ho148 P) (BT.node (Mine.ho216 P) BT.nil BT.nil) (BT.node (Mine.ho280 P) BT.nil BT.nil)))
            (BT.node (Mine.ho98 P)
              (BT.node (Mine.ho130 P) (BT.node (Mine.ho200 P) BT.nil BT.nil) (BT.node (Mine.ho264 P) BT.nil BT.nil))
              (BT.node (Mine.ho164 P) (BT.node (Mine.ho232 P) BT.nil BT.nil) (BT.node (Mine.ho296 P) BT.nil BT.nil)))))
        (BT.node (Mine.ho43 P)
          (BT.node (Mine.ho56 P)
            (BT.node (Mine.ho72 P)
              (BT.node (Mine.ho110 P) (BT.node (Mine.ho176 P) BT.nil BT.nil) (BT.node (Mine.ho244 P) BT.nil BT.nil))
              (BT.node (Mine.ho144 P) (BT.node (Mine.ho212 P) BT.nil BT.nil) (BT.node (Mine.ho276 P) BT.nil BT.nil)))
            (BT.node (Mine.ho91 P)
              (BT.node (Mine.ho126 P) (BT.node (Mine.ho194 P) BT.nil BT.nil) (BT.node (Mine.ho260 P) BT.nil BT.nil))
              (BT.node (Mine.ho160 P) (BT.node (Mine.ho228 P) BT.nil BT.nil) (BT.node (Mine.ho292 P) BT.nil BT.nil))))
          (BT.node (Mine.ho64 P)
            (BT.node (Mine.ho83 P)
              (BT.node (Mine.ho118 P) (BT.node (Mine.ho184 P) BT.nil BT.nil) (BT.node (Mine.ho252 P) BT.nil BT.nil))
              (BT.node (Mine.ho152 P) (BT.node (Mine.ho220 P) BT.nil BT.nil) (BT.node (Mine.ho284 P) BT.nil BT.nil)))
            (BT.node (Mine.ho102 P)
              (BT.node (Mine.ho136 P) (BT.node (Mine.ho204 P) BT.nil BT.nil) (BT.node (Mine.ho268 P) BT.nil BT.nil))
              (BT.node (Mine.ho168 P) (BT.node (Mine.ho236 P) BT.nil BT.nil) BT.nil)))))
      (BT.node (boot_o_5 P)
        (BT.node (boot_o_9 P)
          (BT.node (Mine.ho54 P)
            (BT.node (Mine.ho70 P)
              (BT.node (Mine.ho108 P) (BT.node (Mine.ho174 P) BT.nil BT.nil) (BT.node (Mine.ho242 P) BT.nil BT.nil))
              (BT.node (Mine.ho142 P) (BT.node (Mine.ho210 P) BT.nil BT.nil) (BT.node (Mine.ho274 P) BT.nil BT.nil)))
            (BT.node (Mine.ho89 P)
              (BT.node (Mine.ho124 P) (BT.node (Mine.ho192 P) BT.nil BT.nil) (BT.node (Mine.ho258 P) BT.nil BT.nil))
              (BT.node (Mine.ho158 P) (BT.node (Mine.ho226 P) BT.nil BT.nil) (BT.node (Mine.ho290 P) BT.nil BT.nil))))
          (BT.node (Mine.ho62 P)
            (BT.node (Mine.ho78 P)
              (BT.node (Mine.ho116 P) (BT.node (Mine.ho182 P) BT.nil BT.nil) (BT.node (Mine.ho250 P) BT.nil BT.nil))
              (BT.node (Mine.ho150 P) (BT.node (Mine.ho218 P) BT.nil BT.nil) (BT.node (Mine.ho282 P) BT.nil BT.nil)))
            (BT.node (Mine.ho100 P)
              (BT.node (Mine.ho134 P) (BT.node (Mine.ho202 P) BT.nil BT.nil) (BT.node (Mine.ho266 P) BT.nil BT.nil))
              (BT.node (Mine.ho166 P) (BT.node (Mine.ho234 P) BT.nil BT.nil) BT.nil))))
        (BT.node (Mine.ho45 P)
          (BT.node (Mine.ho58 P)
            (BT.node (Mine.ho74 P)
              (BT.node (Mine.ho112 P) (BT.node (Mine.ho178 P) BT.nil BT.nil) (BT.node (Mine.ho246 P) BT.nil BT.nil))
              (BT.node (Mine.ho146 P) (BT.node (Mine.ho214 P) BT.nil BT.nil) (BT.node (Mine.ho278 P) BT.nil BT.nil)))
            (BT.node (Mine.ho93 P)
              (BT.node (Mine.ho128 P) (BT.node (Mine.ho196 P) BT.nil BT.nil) (BT.node (Mine.ho262 P) BT.nil BT.nil))
              (BT.node (Mine.ho162 P) (BT.node (Mine.ho230 P) BT.nil BT.nil) (BT.node (Mine.ho294 P) BT.nil BT.nil))))
          (BT.node (Mine.ho66 P)
            (BT.node (Mine.ho85 P)
              (BT.node (Mine.ho120 P) (BT.node (Mine.ho186 P) BT.nil BT.nil) (BT.node (Mine.ho254 P) BT.nil BT.nil))
              (BT.node (Mine.ho154 P) (BT.node (Mine.ho222 P) BT.nil BT.nil) (BT.node (Mine.ho286 P) BT.nil BT.nil)))
            (BT.node (Mine.ho104 P)
              (BT.node (Mine.ho138 P) (BT.node (Mine.ho206 P) BT.nil BT.nil) (BT.node (Mine.ho270 P) BT.nil BT.nil))
              (BT.node (Mine.ho170 P) (BT.node (Mine.ho238 P) BT.nil BT.nil) BT.nil))))))
    (BT.node (Mine.ho49 P)
      (BT.node (boot_o_4 P)
        (BT.node (boot_o_8 P)
          (BT.node (Mine.ho53 P)
            (BT.node (Mine.ho69 P)
              (BT.node (Mine.ho107 P) (BT.node (Mine.ho173 P) BT.nil BT.nil) (BT.node (Mine.ho241 P) BT.nil BT.nil))
              (BT.node (Mine.ho141 P) (BT.node (Mine.ho209 P) BT.nil BT.nil) (BT.node (Mine.ho273 P) BT.nil BT.nil)))
            (BT.node (Mine.ho88 P)
              (BT.node (Mine.ho123 P) (BT.node (Mine.ho191 P) BT.nil BT.nil) (BT.node (Mine.ho257 P) BT.nil BT.nil))
              (BT.node (Mine.ho157 P) (BT.node (Mine.ho225 P) BT.nil BT.nil) (BT.node (Mine.ho289 P) BT.nil BT.nil))))
          (BT.node (Mine.ho61 P)
            (BT.node (Mine.ho77 P)
              (BT.node (Mine.ho115 P) (BT.node (Mine.ho181 P) BT.nil BT.nil) (BT.node (Mine.ho249 P) BT.nil BT.nil))
              (BT.node (Mine.ho149 P) (BT.node (Mine.ho217 P) BT.nil BT.nil) (BT.node (Mine.ho281 P) BT.nil BT.nil)))
            (BT.node (Mine.ho99 P)
              (BT.node (Mine.ho133 P) (BT.node (Mine.ho201 P) BT.nil BT.nil) (BT.node (Mine.ho265 P) BT.nil BT.nil))
              (BT.node (Mine.ho165 P) (BT.node (Mine.ho233 P) BT.nil BT.nil) (BT.node (Mine.ho297 P) BT.nil BT.nil)))))
        (BT.node (Mine.ho199 P)
          (BT.node (Mine.ho57 P)
            (BT.node (Mine.ho73 P)
              (BT.node (Mine.ho111 P) (BT.node (Mine.ho177 P) BT.nil BT.nil) (BT.node (Mine.ho245 P) BT.nil BT.nil))
              (BT.node (Mine.ho145 P) (BT.node (Mine.ho213 P) BT.nil BT.nil) (BT.node (Mine.ho277 P) BT.nil BT.nil)))
            (BT.node (Mine.ho92 P)
              (BT.node (Mine.ho127 P) (BT.node (Mine.ho195 P) BT.nil BT.nil) (BT.node (Mine.ho261 P) BT.nil BT.nil))
              (BT.node (Mine.ho161 P) (BT.node (Mine.ho229 P) BT.nil BT.nil) (BT.node (Mine.ho293 P) BT.nil BT.nil))))
          (BT.node (Mine.ho65 P)
            (BT.node (Mine.ho84 P)
              (BT.node (Mine.ho119 P) (BT.node (Mine.ho185 P) BT.nil BT.nil) (BT.node (Mine.ho253 P) BT.nil BT.nil))
              (BT.node (Mine.ho153 P) (BT.node (Mine.ho221 P) BT.nil BT.nil) (BT.node (Mine.ho285 P) BT.nil BT.nil)))
            (BT.node (Mine.ho103 P)
              (BT.node (Mine.ho137 P) (BT.node (Mine.ho205 P) BT.nil BT.nil) (BT.node (Mine.ho269 P) BT.nil BT.nil))
              (BT.node (Mine.ho169 P) (BT.node (Mine.ho237 P) BT.nil BT.nil) BT.nil)))))
      (BT.node (boot_o_6 P)
        (BT.node (boot_o_10 P)
          (BT.node (Mine.ho55 P)
            (BT.node (Mine.ho71 P)
              (BT.node (Mine.ho109 P) (BT.node (Mine.ho175 P) BT.nil BT.nil) (BT.node (Mine.ho243 P) BT.nil BT.nil))
              (BT.node (Mine.ho143 P) (BT.node (Mine.ho211 P) BT.nil BT.nil) (BT.node (Mine.ho275 P) BT.nil BT.nil)))
            (BT.node (Mine.ho90 P)
              (BT.node (Mine.ho125 P) (BT.node (Mine.ho193 P) BT.nil BT.nil) (BT.node (Mine.ho259 P) BT.nil BT.nil))
              (BT.node (Mine.ho159 P) (BT.node (Mine.ho227 P) BT.nil BT.nil) (BT.node (Mine.ho291 P) BT.nil BT.nil))))
          (BT.node (Mine.ho63 P)
            (BT.node (Mine.ho82 P)
              (BT.node (Mine.ho117 P) (BT.node (Mine.ho183 P) BT.nil BT.nil) (BT.node (Mine.ho251 P) BT.nil BT.nil))
              (BT.node (Mine.ho151 P) (BT.node (Mine.ho219 P) BT.nil BT.nil) (BT.node (Mine.ho283 P) BT.nil BT.nil)))
            (BT.node (Mine.ho101 P)
              (BT.node (Mine.ho135 P) (BT.node (Mine.ho203 P) BT.nil BT.nil) (BT.node (Mine.ho267 P) BT.nil BT.nil))
              (BT.node (Mine.ho167 P) (BT.node (Mine.ho235 P) BT.nil BT.nil) BT.nil))))
        (BT.node (Mine.ho46 P)
          (BT.node (Mine.ho59 P)
            (BT.node (Mine.ho96 P)
              (BT.node (Mine.ho113 P) (BT.node (Mine.ho179 P) BT.nil BT.nil) (BT.node (Mine.ho247 P) BT.nil BT.nil))
              (BT.node (Mine.ho147 P) (BT.node (Mine.ho215 P) BT.nil BT.nil) (BT.node (Mine.ho279 P) BT.nil BT.nil)))
            (BT.node (Mine.ho97 P)
              (BT.node (Mine.ho129 P) (BT.node (Mine.ho197 P) BT.nil BT.nil) (BT.node (Mine.ho263 P) BT.nil BT.nil))
              (BT.node (Mine.ho163 P) (BT.node (Mine.ho231 P) BT.nil BT.nil) (BT.node (Mine.ho295 P) BT.nil BT.nil))))
          (BT.node (Mine.ho67 P)
            (BT.node (Mine.ho86 P)
              (BT.node (Mine.ho121 P) (BT.node (Mine.ho187 P) BT.nil BT.nil) (BT.node (Mine.ho255 P) BT.nil BT.nil))
              (BT.node (Mine.ho155 P) (BT.node (Mine.ho223 P) BT.nil BT.nil) (BT.node (Mine.ho287 P) BT.nil BT.nil)))
            (BT.node (Mine.ho105 P)
              (BT.node (Mine.ho139 P) (BT.node (Mine.ho207 P) BT.nil BT.nil) (BT.node (Mine.ho271 P) BT.nil BT.nil))
              (BT.node (Mine.ho171 P) (BT.node (Mine.ho239 P) BT.nil BT.nil) BT.nil))))))
noncomputable def htree351 : Params → BT :=
fun P =>
  BT.node (boot_o_0 P)
    (BT.node (boot_o_1 P)
      (BT.node (Mine.ho298 P)
        (BT.node (boot_o_7 P)
          (BT.node (Mine.ho52 P)
            (BT.node (Mine.ho68 P)
              (BT.node (Mine.ho106 P) (BT.node (Mine.ho172 P) (BT.node (Mine.ho306 P) BT.nil BT.nil) BT.nil)
                (BT.node (Mine.ho240 P) BT.nil BT.nil))
              (BT.node (Mine.ho140 P) (BT.node (Mine.ho208 P) (BT.node (Mine.ho338 P) BT.nil BT.nil) BT.nil)
                (BT.node (Mine.ho272 P) BT.nil BT.nil)))
            (BT.node (Mine.ho87 P)
              (BT.node (Mine.ho122 P) (BT.node (Mine.ho188 P) (BT.node (Mine.ho322 P) BT.nil BT.nil) BT.nil)
                (BT.node (Mine.ho256 P) BT.nil BT.nil))
              (BT.node (Mine.ho156 P) (BT.node (Mine.ho224 P) BT.nil BT.nil) (BT.node (Mine.ho288 P) BT.nil BT.nil))))
          (BT.node (Mine.ho60 P)
            (BT.node (Mine.ho76 P)
              (BT.node (Mine.ho114 P) (BT.node (Mine.ho180 P) (BT.node (Mine.ho314 P) BT.nil BT.nil) BT.nil)
                (BT.node (Mine.ho248 P) BT.nil BT.nil))
              (BT.node (Mine.ho148 P) (BT.node (Mine.ho216 P) (BT.node (Mine.ho346 P) BT.nil BT.nil) BT.nil)
                (BT.node (Mine.ho280 P) BT.nil BT.nil)))
            (BT.node (Mine.ho98 P)
              (BT.node (Mine.ho130 P) (BT.node (Mine.ho200 P) (BT.node (Mine.ho330 P) BT.nil BT.nil) BT.nil)
                (BT.node (Mine.ho264 P) BT.nil BT.nil))
              (BT.node (Mine.ho164 P) (BT.node (Mine.ho232 P) BT.nil BT.nil) (BT.node (Mine.ho296 P) BT.nil BT.nil)))))
        (BT.node (Mine.ho43 P)
          (BT.node (Mine.ho56 P)
            (BT.node (Mine.ho72 P)
              (BT.node (Mine.ho110 P) (BT.node (Mine.ho176 P) (BT.node (Mine.ho310 P) BT.nil BT.nil) BT.nil)
                (BT.node (Mine.ho244 P) BT.nil BT.nil))
              (BT.node (Mine.ho144 P) (BT.node (Mine.ho212 P) (BT.node (Mine.ho342 P) BT.nil BT.nil) BT.nil)
                (BT.node (Mine.ho276 P) BT.nil BT.nil)))
            (BT.node (Mine.ho91 P)
              (BT.node (Mine.ho126 P) (BT.node (Mine.ho194 P) (BT.node (Mine.ho326 P) BT.nil BT.nil) BT.nil)
                (BT.node (Mine.ho260 P) BT.nil BT.nil))
              (BT.node (Mine.ho160 P) (BT.node (Mine.ho228 P) BT.nil BT.nil) (BT.node (Mine.ho292 P) BT.nil BT.nil))))
          (BT.node (Mine.ho64 P)
            (BT.node (Mine.ho83 P)
              (BT.node (Mine.ho118 P) (BT.node (Mine.ho184 P) (BT.node (Mine.ho318 P) BT.nil BT.nil) BT.nil)
                (BT.node (Mine.ho252 P) BT.nil BT.nil))
              (BT.node (Mine.ho152 P) (BT.node (Mine.ho220 P) (BT.node (Mine.ho350 P) BT.nil BT.nil) BT.nil)
                (BT.node (Mine.ho284 P) BT.nil BT.nil)))
            (BT.node (Mine.ho102 P)
              (BT.node (Mine.ho136 P) (BT.node (Mine.ho204 P) (BT.node (Mine.ho334 P) BT.nil BT.nil) BT.nil)
                (BT.node (Mine.ho268 P) BT.nil BT.nil))
              (BT.node (Mine.ho168 P) (BT.node (Mine.ho236 P) BT.nil BT.nil) (BT.node (Mine.ho302 P) BT.nil BT.nil))))))
      (BT.node (boot_o_5 P)
        (BT.node (boot_o_9 P)
          (BT.node (Mine.ho54 P)
            (BT.node (Mine.ho70 P)
              (BT.node (Mine.ho108 P) (BT.node (Mine.ho174 P) (BT.node (Mine.ho308 P) BT.nil BT.nil) BT.nil)
                (BT.node (Mine.ho242 P) BT.nil BT.nil))
              (BT.node (Mine.ho142 P) (BT.node (Mine.ho210 P) (BT.node (Mine.ho340 P) BT.nil BT.nil) BT.nil)
                (BT.node (Mine.ho274 P) BT.nil BT.nil)))
            (BT.node (Mine.ho89 P)
              (BT.node (Mine.ho124 P) (BT.node (Mine.ho192 P) (BT.node (Mine.ho324 P) BT.nil BT.nil) BT.nil)
                (BT.node (Mine.ho258 P) BT.nil BT.nil))
              (BT.node (Mine.ho158 P) (BT.node (Mine.ho226 P) BT.nil BT.nil) (BT.node (Mine.ho290 P) BT.nil BT.nil))))
          (BT.node (Mine.ho62 P)
            (BT.node (Mine.ho78 P)
              (BT.node (Mine.ho116 P) (BT.node (Mine.ho182 P) (BT.node (Mine.ho316 P) BT.nil BT.nil) BT.nil)
                (BT.node (Mine.ho250 P) BT.nil BT.nil))
              (BT.node (Mine.ho150 P) (BT.node (Mine.ho218 P) (BT.node (Mine.ho348 P) BT.nil BT.nil) BT.nil)
                (BT.node (Mine.ho282 P) BT.nil BT.nil)))
            (BT.node (Mine.ho100 P)
              (BT.node (Mine.ho134 P) (BT.node (Mine.ho202 P) (BT.node (Mine.ho332 P) BT.nil BT.nil) BT.nil)
                (BT.node (Mine.ho266 P) BT.nil BT.nil))
              (BT.node (Mine.ho166 P) (BT.node (Mine.ho234 P) BT.nil BT.nil) (BT.node (Mine.ho300 P) BT.nil BT.nil)))))
        (BT.node (Mine.ho45 P)
          (BT.node (Mine.ho58 P)
            (BT.node (Mine.ho74 P)
              (BT.node (Mine.ho112 P) (BT.node (Mine.ho178 P) (BT.node (Mine.ho312 P) BT.nil BT.nil) BT.nil)
                (BT.node (Mine.ho246 P) BT.nil BT.nil))
              (BT.node (Mine.ho146 P) (BT.node (Mine.ho214 P) (BT.node (Mine.ho344 P) BT.nil BT.nil) BT.nil)
                (BT.node (Mine.ho278 P) BT.nil BT.nil)))
            (BT.node (Mine.ho93 P)
              (BT.node (Mine.ho128 P) (BT.node (Mine.ho196 P) (BT.node (Mine.ho328 P) BT.nil BT.nil) BT.nil)
                (BT.node (Mine.ho262 P) BT.nil BT.nil))
              (BT.node (Mine.ho162 P) (BT.node (Mine.ho230 P) BT.nil BT.nil) (BT.node (Mine.ho294 P) BT.nil BT.nil))))
          (BT.node (Mine.ho66 P)
            (BT.node (Mine.ho85 P)
              (BT.node (Mine.ho120 P) (BT.node (Mine.ho186 P) (BT.node (Mine.ho320 P) BT.nil BT.nil) BT.nil)
                (BT.node (Mine.ho254 P) BT.nil BT.nil))
              (BT.node (Mine.ho154 P) (BT.node (Mine.ho222 P) BT.nil BT.nil) (BT.node (Mine.ho286 P) BT.nil BT.nil)))
            (BT.node (Mine.ho104 P)
              (BT.node (Mine.ho138 P) (BT.node (Mine.ho206 P) (BT.node (Mine.ho336 P) BT.nil BT.nil) BT.nil)
                (BT.node (Mine.ho270 P) BT.nil BT.nil))
              (BT.node (Mine.ho170 P) (BT.node (Mine.ho238 P) BT.nil BT.nil)
                (BT.node (Mine.ho304 P) BT.nil BT.nil)))))))
    (BT.node (Mine.ho49 P)
      (BT.node (boot_o_4 P)
        (BT.node (boot_o_8 P)
          (BT.node (Mine.ho53 P)
            (BT.node (Mine.ho69 P)
              (BT.node (Mine.ho107 P) (BT.node (Mine.ho173 P) (BT.node (Mine.ho307 P) BT.nil BT.nil) BT.nil)
                (BT.node (Mine.ho241 P) BT.nil BT.nil))
              (BT.node (Mine.ho141 P) (BT.node (Mine.ho209 P) (BT.node (Mine.ho339 P) BT.nil BT.nil) BT.nil)
                (BT.node (Mine.ho273 P) BT.nil BT.nil)))
            (BT.node (Mine.ho88 P)
              (BT.node (Mine.ho123 P) (BT.node (Mine.ho191 P) (BT.node (Mine.ho323 P) BT.nil BT.nil) BT.nil)
                (BT.node (Mine.ho257 P) BT.nil BT.nil))
              (BT.node (Mine.ho157 P) (BT.node (Mine.ho225 P) BT.nil BT.nil) (BT.node (Mine.ho289 P) BT.nil BT.nil))))
          (BT.node (Mine.ho61 P)
            (BT.node (Mine.ho77 P)
              (BT.node (Mine.ho115 P) (BT.node (Mine.ho181 P) (BT.node (Mine.ho315 P) BT.nil BT.nil) BT.nil)
                (BT.node (Mine.ho249 P) BT.nil BT.nil))
              (BT.node (Mine.ho149 P) (BT.node (Mine.ho217 P) (BT.node (Mine.ho347 P) BT.nil BT.nil) BT.nil)
                (BT.node (Mine.ho281 P) BT.nil BT.nil)))
            (BT.node (Mine.ho99 P)
              (BT.node (Mine.ho133 P) (BT.node (Mine.ho201 P) (BT.node (Mine.ho331 P) BT.nil BT.nil) BT.nil)
                (BT.node (Mine.ho265 P) BT.nil BT.nil))
              (BT.node (Mine.ho165 P) (BT.node (Mine.ho233 P) BT.nil BT.nil) (BT.node (Mine.ho297 P) BT.nil BT.nil)))))
        (BT.node (Mine.ho299 P)
          (BT.node (Mine.ho57 P)
            (BT.node (Mine.ho73 P)
              (BT.node (Mine.ho111 P) (BT.node (Mine.ho177 P) (BT.node (Mine.ho311 P) BT.nil BT.nil) BT.nil)
                (BT.node (Mine.ho245 P) BT.nil BT.nil))
              (BT.node (Mine.ho145 P) (BT.node (Mine.ho213 P) (BT.node (Mine.ho343 P) BT.nil BT.nil) BT.nil)
                (BT.node (Mine.ho277 P) BT.nil BT.nil)))
            (BT.node (Mine.ho92 P)
              (BT.node (Mine.ho127 P) (BT.node (Mine.ho195 P) (BT.node (Mine.ho327 P) BT.nil BT.nil) BT.nil)
                (BT.node (Mine.ho261 P) BT.nil BT.nil))
              (BT.node (Mine.ho161 P) (BT.node (Mine.ho229 P) BT.nil BT.nil) (BT.node (Mine.ho293 P) BT.nil BT.nil))))
          (BT.node (Mine.ho65 P)
            (BT.node (Mine.ho84 P)
              (BT.node (Mine.ho119 P) (BT.node (Mine.ho185 P) (BT.node (Mine.ho319 P) BT.nil BT.nil) BT.nil)
                (BT.node (Mine.ho253 P) BT.nil BT.nil))
              (BT.node (Mine.ho153 P) (BT.node (Mine.ho221 P) (BT.node (Mine.ho351 P) BT.nil BT.nil) BT.nil)
                (BT.node (Mine.ho285 P) BT.nil BT.nil)))
            (BT.node (Mine.ho103 P)
              (BT.node (Mine.ho137 P) (BT.node (Mine.ho205 P) (BT.node (Mine.ho335 P) BT.nil BT.nil) BT.nil)
                (BT.node (Mine.ho269 P) BT.nil BT.nil))
              (BT.node (Mine.ho169 P) (BT.node (Mine.ho237 P) BT.nil BT.nil) (BT.node (Mine.ho303 P) BT.nil BT.nil))))))
      (BT.node (boot_o_6 P)
        (BT.node (boot_o_10 P)
          (BT.node (Mine.ho55 P)
            (BT.node (Mine.ho71 P)
              (BT.node (Mine.ho109 P) (BT.node (Mine.ho175 P) (BT.node (Mine.ho309 P) BT.nil BT.nil) BT.nil)
                (BT.node (Mine.ho243 P) BT.nil BT.nil))
              (BT.node (Mine.ho143 P) (BT.node (Mine.ho211 P) (BT.node (Mine.ho341 P) BT.nil BT.nil) BT.nil)
                (BT.node (Mine.ho275 P) BT.nil BT.nil)))
            (BT.node (Mine.ho90 P)
              (BT.node (Mine.ho125 P) (BT.node (Mine.ho193 P) (BT.node (Mine.ho325 P) BT.nil BT.nil) BT.nil)
                (BT.node (Mine.ho259 P) BT.nil BT.nil))
              (BT.node (Mine.ho159 P) (BT.node (Mine.ho227 P) BT.nil BT.nil) (BT.node (Mine.ho291 P) BT.nil BT.nil))))
          (BT.node (Mine.ho63 P)
            (BT.node (Mine.ho82 P)
              (BT.node (Mine.ho117 P) (BT.node (Mine.ho183 P) (BT.node (Mine.ho317 P) BT.nil BT.nil) BT.nil)
                (BT.node (Mine.ho251 P) BT.nil BT.nil))
              (BT.node (Mine.ho151 P) (BT.node (Mine.ho219 P) (BT.node (Mine.ho349 P) BT.nil BT.nil) BT.nil)
                (BT.node (Mine.ho283 P) BT.nil BT.nil)))
            (BT.node (Mine.ho101 P)
              (BT.node (Mine.ho135 P) (BT.node (Mine.ho203 P) (BT.node (Mine.ho333 P) BT.nil BT.nil) BT.nil)
                (BT.node (Mine.ho267 P) BT.nil BT.nil))
              (BT.node (Mine.ho167 P) (BT.node (Mine.ho235 P) BT.nil BT.nil) (BT.node (Mine.ho301 P) BT.nil BT.nil)))))
        (BT.node (Mine.ho46 P)
          (BT.node (Mine.ho59 P)
            (BT.node (Mine.ho96 P)
              (BT.node (Mine.ho113 P) (BT.node (Mine.ho179 P) (BT.node (Mine.ho313 P) BT.nil BT.nil) BT.nil)
                (BT.node (Mine.ho247 P) BT.nil BT.nil))
              (BT.node (Mine.ho147 P) (BT.node (Mine.ho215 P) (BT.node (Mine.ho345 P) BT.nil BT.nil) BT.nil)
                (BT.node (Mine.ho279 P) BT.nil BT.nil)))
            (BT.node (Mine.ho97 P)
              (BT.node (Mine.ho129 P) (BT.node (Mine.ho197 P) (BT.node (Mine.ho329 P) BT.nil BT.nil) BT.nil)
                (BT.node (Mine.ho263 P) BT.nil BT.nil))
              (BT.node (Mine.ho163 P) (BT.node (Mine.ho231 P) BT.nil BT.nil) (BT.node (Mine.ho295 P) BT.nil BT.nil))))
          (BT.node (Mine.ho67 P)
            (BT.node (Mine.ho86 P)
              (BT.node (Mine.ho121 P) (BT.node (Mine.ho187 P) (BT.node (Mine.ho321 P) BT.nil BT.nil) BT.nil)
                (BT.node (Mine.ho255 P) BT.nil BT.nil))
              (BT.node (Mine.ho155 P) (BT.node (Mine.ho223 P) BT.nil BT.nil) (BT.node (Mine.ho287 P) BT.nil BT.nil)))
            (BT.node (Mine.ho105 P)
              (BT.node (Mine.ho139 P) (BT.node (Mine.ho207 P) (BT.node (Mine.ho337 P) BT.nil BT.nil) BT.nil)
                (BT.node (Mine.ho271 P) BT.nil BT.nil))
              (BT.node (Mine.ho171 P) (BT.node (Mine.ho239 P) BT.nil BT.nil)
                (BT.node (Mine.ho305 P) BT.nil BT.nil)))))))
noncomputable def hheap352 : Params → Heap :=
fun P =>
  {
    objs :=
      {
        toList :=
          [boot_o_0 P, boot_o_1 P, Mine.ho49 P, Mine.ho298 P, boot_o_4 P, boot_o_5 P, boot_o_6 P, boot_o_7 P,
            boot_o_8 P, boot_o_9 P, boot_o_10 P, Mine.ho43 P, Mine.ho299 P, Mine.ho45 P, Mine.ho46 P, Mine.ho52 P,
            Mine.ho53 P, Mine.ho54 P, Mine.ho55 P, Mine.ho56 P, Mine.ho57 P, Mine.ho58 P, Mine.ho59 P, Mine.ho60 P,
            Mine.ho61 P, Mine.ho62 P, Mine.ho63 P, Mine.ho64 P, Mine.ho65 P, Mine.ho66 P, Mine.ho67 P, Mine.ho68 P,
            Mine.ho69 P, Mine.ho70 P, Mine.ho71 P, Mine.ho72 P, Mine.ho73 P, Mine.ho74 P, Mine.ho96 P, Mine.ho76 P,
            Mine.ho77 P, Mine.ho78 P, Mine.ho82 P, Mine.ho83 P, Mine.ho84 P, Mine.ho85 P, Mine.ho86 P, Mine.ho87 P,
            Mine.ho88 P, Mine.ho89 P, Mine.ho90 P, Mine.ho91 P, Mine.ho92 P, Mine.ho93 P, Mine.ho97 P, Mine.ho98 P,
            Mine.ho99 P, Mine.ho100 P, Mine.ho101 P, Mine.ho102 P, Mine.ho103 P, Mine.ho104 P, Mine.ho105 P,
            Mine.ho106 P, Mine.ho107 P, Mine.ho108 P, Mine.ho109 P, Mine.ho110 P, Mine.ho111 P, Mine.ho112 P,
            Mine.ho113 P, Mine.ho114 P, Mine.ho115 P, Mine.ho116 P, Mine.ho117 P, Mine.ho118 P, Mine.ho119 P,
            Mine.ho120 P, Mine.ho121 P, Mine.ho122 P, Mine.ho123 P, Mine.ho124 P, Mine.ho125 P, Mine.ho126 P,
            Mine.ho127 P, Mine.ho128 P, Mine.ho129 P, Mine.ho130 P, Mine.ho133 P, Mine.ho134 P, Mine.ho135 P,
            Mine.ho136 P, Mine.ho137 P, Mine.ho138 P, Mine.ho139 P, Mine.ho140 P, Mine.ho141 P, Mine.ho142 P,
            Mine.ho143 P, Mine.ho144 P, Mine.ho145 P, Mine.ho146 P, Mine.ho147 P, Mine.ho148 P, Mine.ho149 P,
            Mine.ho150 P, Mine.ho151 P, Mine.ho152 P, Mine.ho153 P, Mine.ho154 P, Mine.ho155 P, Mine.ho156 P,
            Mine.ho157 P, Mine.ho158 P, Mine.ho159 P, Mine.ho160 P, Mine.ho161 P, Mine.ho162 P, Mine.ho163 P,
            Mine.ho164 P, Mine.ho165 P, Mine.ho166 P, Mine.ho167 P, Mine.ho168 P, Mine.ho169 P, Mine.ho170 P,
            Mine.ho171 P, Mine.ho172 P, Mine.ho173 P, Mine.ho174 P, Mine.ho175 P, Mine.ho176 P, Mine.ho177 P,
            Mine.ho178 P, Mine.ho179 P, Mine.ho180 P, Mine.ho181 P, Mine.ho182 P, Mine.ho183 P, Mine.ho184 P,
            Mine.ho185 P, Mine.ho186 P, Mine.ho187 P, Mine.ho188 P, Mine.ho191 P, Mine.ho192 P, Mine.ho193 P,
            Mine.ho194 P, Mine.ho195 P, Mine.ho196 P, Mine.ho197 P, Mine.ho200 P, Mine.ho201 P, Mine.ho202 P,
            Mine.ho203 P, Mine.ho204 P, Mine.ho205 P, Mine.ho206 P, Mine.ho207 P, Mine.ho208 P, Mine.ho209 P,
            Mine.ho210 P, Mine.ho211 P, Mine.ho212 P, Mine.ho213 P, Mine.ho214 P, Mine.ho215 P, Mine.ho216 P,
            Mine.ho217 P, Mine.ho218 P, Mine.ho219 P, Mine.ho220 P, Mine.ho221 P, Mine.ho222 P, Mine.ho223 P,
            Mine.ho224 P, Mine.ho225 P, Mine.ho226 P, Mine.ho227 P, Mine.ho228 P, Mine.ho229 P, Mine.ho230 P,
            Mine.ho231 P, Mine.ho232 P, Mine.ho233 P, Mine.ho234 P, Mine.ho235 P, Mine.ho236 P, Mine.ho237 P,
            Mine.ho238 P, Mine.ho239 P, Mine.ho240 P, Mine.ho241 P, Mine.ho242 P, Mine.ho243 P, Mine.ho244 P,
            Mine.ho245 P, Mine.ho246 P, Mine.ho247 P, Mine.ho248 P, Mine.ho249 P, Mine.ho250 P, Mine.ho251 P,
            Mine.ho252 P, Mine.ho253 P, Mine.ho254 P, Mine.ho255 P, Mine.ho256 P, Mine.ho257 P, Mine.ho258 P,
            Mine.ho259 P, Mine.ho260 P, Mine.ho261 P, Mine.ho262 P, Mine.ho263 P, Mine.ho264 P, Mine.ho265 P,
            Mine.ho266 P, Mine.ho267 P, Mine.ho268 P, Mine.ho269 P, Mine.ho270 P, Mine.ho271 P, Mine.ho272 P,
            Mine.ho273 P, Mine.ho274 P, Mine.ho275 P, Mine.ho276 P, Mine.ho277 P, Mine.ho278 P, Mine.ho279 P,
            Mine.ho280 P, Mine.ho281 P, Mine.ho282 P, Mine.ho283 P, Mine.ho284 P, Mine.ho285 P, Mine.ho286 P,
            Mine.ho287 P, Mine.ho288 P, Mine.ho289 P, Mine.ho290 P, Mine.ho291 P, Mine.ho292 P, Mine.ho293 P,
            Mine.ho294 P, Mine.ho295 P, Mine.ho296 P, Mine.ho297 P, Mine.ho300 P, Mine.ho301 P, Mine.ho302 P,
            Mine.ho303 P, Mine.ho304 P, Mine.ho305 P, Mine.ho306 P, Mine.ho307 P, Mine.ho308 P, Mine.ho309 P,
            Mine.ho310 P, Mine.ho311 P, Mine.ho312 P, Mine.ho313 P, Mine.ho314 P, Mine.ho315 P, Mine.ho316 P,
            Mine.ho317 P, Mine.ho318 P, Mine.ho319 P, Mine.ho320 P, Mine.ho321 P, Mine.ho322 P, Mine.ho323 P,
            Mine.ho324 P, Mine.ho325 P, Mine.ho326 P, Mine.ho327 P, Mine.ho328 P, Mine.ho329 P, Mine.ho330 P,
            Mine.ho331 P, Mine.ho332 P, Mine.ho333 P, Mine.ho334 P, Mine.ho335 P, Mine.ho336 P, Mine.ho337 P,
            Mine.ho338 P, Mine.ho339 P, Mine.ho340 P, Mine.ho341 P, Mine.ho342 P, Mine.ho343 P, Mine.ho344 P,
            Mine.ho345 P, Mine.ho346 P, Mine.ho347 P, Mine.ho348 P, Mine.ho349 P, Mine.ho350 P, Mine.ho351 P] } }


end
section
abbrev hp : Program := PySem.Challenge.rw_xm0729_01.row.toRowW.1
abbrev hB : List Stmt := behindTheImports hp
noncomputable abbrev hC : Code := Code.body hB henv41
abbrev hF : List Frame := [topFrame ⟨0, 0, 0, 0⟩]
abbrev hA : Option Value := some (.ref 6)
abbrev hS (T : BT) (n k : Nat) (os : OsState) : SharedT := { tree := T, n := n, life := {}, gens := #[], drawn := {}, toks := k, os := os }
noncomputable def hsts49 : List Stmt := (hB.drop 0).take 3
noncomputable def hsts79 : List Stmt := (hB.drop 3).take 1
noncomputable def hsts94 : List Stmt := (hB.drop 4).take 8
noncomputable def hsts131 : List Stmt := (hB.drop 12).take 3
noncomputable def hsts189 : List Stmt := (hB.drop 15).take 4
noncomputable def hsts198 : List Stmt := (hB.drop 19).take 1
noncomputable def hsts298 : List Stmt := (hB.drop 20).take 10
theorem pc_pre (w : World) : (fun os => topGo treeTable hp w 11 hA 12 ⟨boot_heap w.params, #[], boot_drawn, boot_toks, os⟩ (topStub hp)) = fun os => some (⟨hheap46 w.params, #[], {}, 187, os⟩, ⟨denote treeTable hC, hC, ⟨0, 0, 0, 0⟩, hF⟩) := by
  kernel_rfl
theorem pc_block (w : World) : (fun os => segRun treeTable hp w 11 hA 1 1 ⟨hheap46 w.params, #[], {}, 187, os⟩ (blockOf hB henv41 hC ⟨0, 0, 0, 0⟩ hF)) = fun os => some (Flow.next, (hS (htree47 w.params) 15 187 os).abs, hC, ⟨0, 0, 0, 0⟩) := by
  rw [PySem.W.Fast.te14364793385576792824, PySem.W.Fast.te14374325043358763698]
  kernel_rfl
theorem pc_49 (w : World) : (fun os => segRunT treeTable hp w 11 hA 1 267 (hS (htree47 w.params) 15 187 os) (piecesOf hsts49 henv41 hC ⟨0, 0, 0, 0⟩ hF)) = fun os => some (Flow.next, hS (htree78 w.params) 42 225 os, hC, ⟨5, 0, 8, 30⟩) := by
  rw [PySem.W.Fast.te14364793385576792824, PySem.W.Fast.te10110043849684766642]
  kernel_rfl
theorem pc_79 (w : World) : (fun os => segRunT treeTable hp w 11 hA 1 214 (hS (htree78 w.params) 42 225 os) (piecesOf hsts79 henv41 hC ⟨5, 0, 8, 30⟩ hF)) = fun os => some (Flow.next, hS (htree93 w.params) 54 241 os, hC, ⟨9, 0, 10, 8⟩) := by
  rw [PySem.W.Fast.te14364793385576792824, PySem.W.Fast.te10110043849684766642]
  kernel_rfl
theorem pc_94 (w : World) : (fun os => segRunT treeTable hp w 11 hA 1 364 (hS (htree93 w.params) 54 241 os) (piecesOf hsts94 henv41 hC ⟨9, 0, 10, 8⟩ hF)) = fun os => some (Flow.next, hS (htree130 w.params) 88 300 os, hC, ⟨26, 0, 32, 44⟩) := by
  rw [PySem.W.Fast.te14364793385576792824, PySem.W.Fast.te10110043849684766642]
  kernel_rfl
theorem pc_131 (w : World) : (fun os => segRunT treeTable hp w 11 hA 1 382 (hS (htree130 w.params) 88 300 os) (piecesOf hsts131 henv41 hC ⟨26, 0, 32, 44⟩ hF)) = fun os => some (Flow.next, hS (htree188 w.params) 144 372 os, hC, ⟨58, 0, 64, 65⟩) := by
  rw [PySem.W.Fast.te14364793385576792824, PySem.W.Fast.te10110043849684766642]
  kernel_rfl
theorem pc_189 (w : World) : (fun os => segRunT treeTable hp w 11 hA 1 64 (hS (htree188 w.params) 144 372 os) (piecesOf hsts189 henv41 hC ⟨58, 0, 64, 65⟩ hF)) = fun os => some (Flow.next, hS (htree197 w.params) 151 392 os, hC, ⟨83, 0, 83, 17⟩) := by
  rw [PySem.W.Fast.te14364793385576792824, PySem.W.Fast.te10110043849684766642]
  kernel_rfl
theorem pc_198 (w : World) : (fun os => segRunT treeTable hp w 11 hA 1 572 (hS (htree197 w.params) 151 392 os) (piecesOf hsts198 henv41 hC ⟨83, 0, 83, 17⟩ hF)) = fun os => some (Flow.next, hS (htree297 w.params) 249 506 os, hC, ⟨84, 0, 152, 16⟩) := by
  rw [PySem.W.Fast.te14364793385576792824, PySem.W.Fast.te10110043849684766642]
  kernel_rfl
theorem pc_298 (w : World) : (fun os => segRunT treeTable hp w 11 hA 1 258 (hS (htree297 w.params) 249 506 os) (piecesOf hsts298 henv41 hC ⟨84, 0, 152, 16⟩ hF)) = fun os => some (Flow.next, hS (htree351 w.params) 301 577 os, hC, ⟨194, 0, 201, 89⟩) := by
  rw [PySem.W.Fast.te14364793385576792824, PySem.W.Fast.te10110043849684766642]
  kernel_rfl
theorem pc_fin (w : World) : (fun os => topRun treeTable hp w 11 hA 2 (hS (htree351 w.params) 301 577 os).abs ⟨doneF .next, hC, ⟨194, 0, 201, 89⟩, hF⟩) = fun os => some ⟨hheap352 w.params, #[], {}, 577, os⟩ := by
  rw [PySem.W.Fast.te14364793385576792824, PySem.W.Fast.te14082659384304107361]
  kernel_rfl
theorem pc_body : hB = hsts49 ++ ( hsts79 ++ ( hsts94 ++ ( hsts131 ++ ( hsts189 ++ ( hsts198 ++ ( hsts298 ++ ( [] ))))))) := by kernel_rfl
theorem pc_run (w : World) (os : OsState) : topRun treeTable hp w 11 hA (12 + (1 + (267 + (214 + (364 + (382 + (64 + (572 + (258 + (2)))))))))) ⟨boot_heap w.params, #[], boot_drawn, boot_toks, os⟩ (topStub hp) = some ⟨hheap352 w.params, #[], {}, 577, os⟩ := by
  refine go_top (congrFun (pc_pre w) os) ?_
  refine piece_block (congrFun (pc_block w) os) ?_
  have h : topRun treeTable hp w 11 hA (267 + (214 + (364 + (382 + (64 + (572 + (258 + (2)))))))) (hS (htree47 w.params) 15 187 os).abs (restOf (hsts49 ++ ( hsts79 ++ ( hsts94 ++ ( hsts131 ++ ( hsts189 ++ ( hsts198 ++ ( hsts298 ++ ( [] )))))))) henv41 hC ⟨0, 0, 0, 0⟩ hF) = some ⟨hheap352 w.params, #[], {}, 577, os⟩ := by
    refine piece_app (segRun_of (congrFun (pc_49 w) os)) ?_
    refine piece_app (segRun_of (congrFun (pc_79 w) os)) ?_
    refine piece_app (segRun_of (congrFun (pc_94 w) os)) ?_
    refine piece_app (segRun_of (congrFun (pc_131 w) os)) ?_
    refine piece_app (segRun_of (congrFun (pc_189 w) os)) ?_
    refine piece_app (segRun_of (congrFun (pc_198 w) os)) ?_
    refine piece_app (segRun_of (congrFun (pc_298 w) os)) ?_
    exact piece_nil (congrFun (pc_fin w) os)
  rw [← pc_body] at h
  exact h

end
section
section
local macro_rules
  | `(tactic| refine $e:term) => do
    match e.raw.find? (fun (s : Lean.Syntax) => s.isIdent && s.getId.eraseMacroScopes == `hl) with
    | none => Lean.Macro.throwUnsupported
    | some _ => do
      `(tactic| (refine' $e; all_goals (first | (fail_if_success (with_reducible show LeftO _ _ _ _ _ _ _ _)) | (
      refine' LeftO.of_pieces (H₀ := boot_heap) (H₁ := hheap352) (gs₀ := Array.mk []) (gs₁ := Array.mk []) (d₀ := boot_drawn) (d₁ := {}) (k₀ := boot_toks) (k₁ := 577) (m₀ := 11) (ann := hA) ?opn ?size (fun w os => pc_run w os) ?le ?looks
      (case opn => exact boot_open rfl (by decide) (fun _ => rfl))
      (case size => intro w; kernel_rfl)
      (case le => first | rfl | decide)
      (case looks => intro w; funext os; refine' Prod.ext ?x (Prod.ext ?y ?z); (case x => as_aux_lemma => kernel_rfl); (case y => (try rw [PySem.W.Fast.te4187177175401517315]); as_aux_lemma => kernel_rfl); (case z => as_aux_lemma => kernel_rfl))))))
set_option maxRecDepth 100000 in
set_option maxHeartbeats 8000000 in
open_top hd for PySem.Challenge.rw_xm0729_01
end

end
set_option maxHeartbeats 200000
local macro_rules | `(tactic| walk_at $s:str) => `(tactic| k_extra $s)
local macro_rules | `(tactic| k_room) => `(tactic| k_extra "k_room")
local macro_rules | `(tactic| k_all) => `(tactic| k_extra "k_all")
local macro_rules | `(tactic| k_ne) => `(tactic| k_extra "k_ne")
local macro_rules | `(tactic| ktr_room) => `(tactic| k_extra "ktr_room")
local macro_rules | `(tactic| ktr_units) => `(tactic| k_extra "ktr_units")
theorem topOff : True := by
  w_top off
  trivial
section
theorem upd_same {d : Addr} {o : Obj} : ∀ {pre pre' post post' : List (Addr × Obj)}, pre' ++ (d, o) :: post' = pre ++ (d, o) :: post → (∀ p ∈ pre', p.1 ≠ d) → (∀ p ∈ pre, p.1 ≠ d) → pre' = pre ∧ post' = post
  | [], [], _, _, e, _, _ => ⟨rfl, (List.cons.inj e).2⟩
  | q :: _, [], _, _, e, _, h => by
    have := (List.cons.inj e).1
    exact absurd (this ▸ rfl) (h q (.head _))
  | [], q :: _, _, _, e, h, _ => by
    have := (List.cons.inj e).1
    exact absurd (this ▸ rfl) (h q (.head _))
  | p :: _, q :: _, _, _, e, h, h' => by
    obtain ⟨e1, e2⟩ := List.cons.inj e
    obtain ⟨a, b⟩ := upd_same e2 (fun r hr => h r (.tail _ hr)) (fun r hr => h' r (.tail _ hr))
    exact ⟨by rw [e1, a], b⟩
/-- a text that the machine takes -/
def Short (T : Str) : Prop := T.length ≤ 4096
theorem Short.fits {T : Str} (h : Short T) : T.length ≤ sizeLine := Nat.le_trans h (by rw [sizeLine_eq]; decide)
/-- what a method of the scanner's does, in whatever surroundings: its object and dict stand first in the ledger -/
def ObC (C : Addr) (w : World) (mean : ExcName → Option Value) (mg mb : Str → Option Value) (f : Addr) (args : List Value) (D U : Nat) (T : Str) (k : Int) (P : Value → Int → Prop) : Prop :=
  ∀ (x d : Addr) (_ : @LT.lt Nat _ d x) (rest : List (Addr × Obj)) (ta tb tc td : Tok) (_ : ∀ p ∈ rest, p.1 ≠ d),
    ∀ (dp un : Nat) (gd : Option (List Code)) (cn : Str) (cs : Scope) (a : Addr) (ccd : Value) (cl : List (Str × Addr)) (outer : List Env) (A₀ : Around) (base h₀ : Heap) (L : Addr) (m : Str → Option Value) (s : Shared) (Q E : Value → Shared → Prop), Below A₀ base outer h₀ → Fr h₀ L s.heap m → (hd.heap_39 w.params).In h₀ → News h₀ L s.heap ((d, dictOf [⟨PyData.keyHash w.params (Str.ofString "text"), .str (Str.ofString "text") ta, .str T tb⟩, ⟨PyData.keyHash w.params (Str.ofString "at"), .str (Str.ofString "at") tc, .int k td⟩] 2) :: (x, instObj C d) :: rest) → Top hd.view_39 (looseW hd.view_39 [Str.ofString "MOST_VALUE", Str.ofString "fraction"]) mean mg mb h₀ → cs.kind = .function → dp + D < recursionLimit → un + U < cLine →
    (∀ r h' tk' td' i, P r i → Fr h₀ L h' m → News h₀ L h' ((d, dictOf [⟨PyData.keyHash w.params (Str.ofString "text"), .str (Str.ofString "text") ta, .str T tb⟩, ⟨PyData.keyHash w.params (Str.ofString "at"), .str (Str.ofString "at") tc, .int i td'⟩] 2) :: (x, instObj C d) :: rest) → Q r { s with heap := h', toks := tk' }) →
    wpAny (model PySem.Challenge.rw_xm0729_01.row.prog w) (ktrTop dp un gd cn cs L a ccd cl outer) (call (.ref f) (.ref x :: args)) Q E s
/-- a method of the scanner's without arguments -/
abbrev ScC (w : World) (mean : ExcName → Option Value) (mg mb : Str → Option Value) (f : Addr) (D U : Nat) (T : Str) (k : Int) (P : Value → Int → Prop) : Prop := ObC 244 w mean mg mb f [] D U T k P
/-- the same at a call, the ledger as it lies -/
theorem sc_use {cl0 : Addr} {w : World} {mean : ExcName → Option Value} {mg mb : Str → Option Value} {f : Addr} {args : List Value} {D U : Nat} {T : Str} {k : Int} {P : Value → Int → Prop} (C : ObC cl0 w mean mg mb f args D U T k P)
    {x d : Addr} {ta tb tc td : Tok} {news : List (Addr × Obj)} {news' : Int → Tok → List (Addr × Obj)}
    {dp un : Nat} {gd : Option (List Code)} {cn : Str} {cs : Scope} {a : Addr} {ccd : Value} {cl : List (Str × Addr)} {outer : List Env} {A₀ : Around} {base h₀ : Heap} {L : Addr} {m : Str → Option Value} {s : Shared} {Q E : Value → Shared → Prop}
    (B : Below A₀ base outer h₀) (F : Fr h₀ L s.heap m) (X : (hd.heap_39 w.params).In h₀) (N : News h₀ L s.heap news) (TT : Top hd.view_39 (looseW hd.view_39 [Str.ofString "MOST_VALUE", Str.ofString "fraction"]) mean mg mb h₀) (hck : cs.kind = .function)
    (hx : (x, instObj cl0 d) ∈ news) (hlt : @LT.lt Nat _ d x) (Up : ∀ i td', Upd d (dictOf [⟨PyData.keyHash w.params (Str.ofString "text"), .str (Str.ofString "text") ta, .str T tb⟩, ⟨PyData.keyHash w.params (Str.ofString "at"), .str (Str.ofString "at") tc, .int k td⟩] 2) (dictOf [⟨PyData.keyHash w.params (Str.ofString "text"), .str (Str.ofString "text") ta, .str T tb⟩, ⟨PyData.keyHash w.params (Str.ofString "at"), .str (Str.ofString "at") tc, .int i td'⟩] 2) news (news' i td'))
    (hdp : dp + D < recursionLimit) (hun : un + U < cLine)
    (hret : ∀ r h' tk' td' i, P r i → Fr h₀ L h' m → News h₀ L h' (news' i td') → Q r { s with heap := h', toks := tk' }) :
    wpAny (model PySem.Challenge.rw_xm0729_01.row.prog w) (ktrTop dp un gd cn cs L a ccd cl outer) (call (.ref f) (.ref x :: args)) Q E s := by
  obtain ⟨pre, post, e1, _, n1, n2⟩ := (Up k td).split
  have hne : ∀ p ∈ pre ++ post, p.1 ≠ d := fun p hp => (List.mem_append.mp hp).elim (n1 p) (n2 p)
  refine C x d hlt (pre ++ post) ta tb tc td hne dp un gd cn cs a ccd cl outer A₀ base h₀ L m s Q E B F X (fun p hp => N p ?_) TT hck hdp hun fun r h' tk' td' i hp F' N' => hret r h' tk' td' i hp F' fun p hp' => N' p ?_
  · rw [e1]
    rcases List.mem_cons.mp hp with rfl | hp
    · exact List.mem_append_right _ (.head _)
    · rcases List.mem_cons.mp hp with rfl | hp
      · rw [e1] at hx; exact hx
      · rcases List.mem_append.mp hp with hp | hp
        · exact List.mem_append_left _ hp
        · exact List.mem_append_right _ (.tail _ hp)
  · obtain ⟨pre', post', e1', e2', n1', n2'⟩ := (Up i td').split
    obtain ⟨ep, eo⟩ : pre' = pre ∧ post' = post := upd_same (e1'.symm.trans e1) n1' n1
    subst ep eo
    rw [e2'] at hp'
    rcases List.mem_append.mp hp' with hp' | hp'
    · exact .tail _ (.tail _ (List.mem_append_left _ hp'))
    · rcases List.mem_cons.mp hp' with rfl | hp'
      · exact .head _
      · exact .tail _ (.tail _ (List.mem_append_right _ hp'))

end
section
/-- how many signs from the left are of the kind -/
def span (p : Nat → Bool) (l : List Nat) : Nat := (l.takeWhile p).length
def isB (c : Nat) : Bool := decide (c ∈ [32, 9, 10, 13, 12])
def isD (c : Nat) : Bool := decide (c ∈ [48, 49, 50, 51, 52, 53, 54, 55, 56, 57])
/-- the signs from a place on -/
def tl (T : Str) (i : Int) : List Nat := T.cps.toList.drop i.toNat
/-- where a run from i ends -/
def stop (p : Nat → Bool) (T : Str) (i : Int) : Int := i + (span p (tl T i) : Nat)
def one (c : Nat) : Str := ⟨#[c]⟩
def chr (T : Str) (i : Int) : Nat := T.cps.toList.getD i.toNat 0
/-- the slice of one sign at i -/
def pk (T : Str) (i : Int) : Str := ⟨((tl T i).take 1).toArray⟩
theorem stop_le (p : Nat → Bool) (T : Str) (i : Int) : i ≤ stop p T i := by unfold stop; omega
theorem tl_cons {T : Str} {i : Int} (h0 : 0 ≤ i) (h1 : i < T.length) : tl T i = chr T i :: tl T (i + 1) := by
  unfold tl chr
  have h : i.toNat < T.cps.toList.length := by
    have : T.length = T.cps.toList.length := by simp [Str.length]
    omega
  rw [List.drop_eq_getElem_cons h, List.getD_eq_getElem?_getD, List.getElem?_eq_getElem h, Option.getD_some, show (i + 1).toNat = i.toNat + 1 by omega]
theorem tl_nil {T : Str} {i : Int} (h1 : T.length ≤ i) : tl T i = [] := by
  unfold tl
  have : T.length = T.cps.toList.length := by simp [Str.length]
  exact List.drop_eq_nil_of_le (by omega)
theorem stop_go {p : Nat → Bool} {T : Str} {i : Int} (h0 : 0 ≤ i) (h1 : i < T.length) (h : p (chr T i) = true) : stop p T i = stop p T (i + 1) := by
  unfold stop span
  rw [tl_cons h0 h1, List.takeWhile_cons, if_pos h, List.length_cons]
  omega
theorem stop_no {p : Nat → Bool} {T : Str} {i : Int} (h0 : 0 ≤ i) (h1 : i < T.length) (h : p (chr T i) = false) : stop p T i = i := by
  unfold stop span
  rw [tl_cons h0 h1, List.takeWhile_cons, if_neg (by rw [h]; decide), List.length_nil]
  omega
theorem stop_end {p : Nat → Bool} {T : Str} {i : Int} (h1 : T.length ≤ i) : stop p T i = i := by
  unfold stop span
  rw [tl_nil h1, List.takeWhile_nil, List.length_nil]
  omega
theorem inv_ge {p : Nat → Bool} {T : Str} {k i : Int} (h : i = stop p T k) : k ≤ i := h ▸ stop_le p T k
/-- between two turns of a run from k -/
def Inv (p : Nat → Bool) (T : Str) (k i : Int) : Prop := 0 ≤ i ∧ stop p T i = stop p T k ∧ k ≤ i
theorem inv_start {p : Nat → Bool} {T : Str} {k : Int} (h : 0 ≤ k) : Inv p T k k := ⟨h, rfl, Int.le_refl _⟩
theorem Inv.nn {p : Nat → Bool} {T : Str} {k i : Int} (h : Inv p T k i) : 0 ≤ i := h.1
theorem Inv.le {p : Nat → Bool} {T : Str} {k i : Int} (h : Inv p T k i) : k ≤ i := h.2.2
theorem inv_go {p : Nat → Bool} {T : Str} {k i : Int} (h : Inv p T k i) (h1 : i < T.length) (hp : p (chr T i) = true) : Inv p T k (i + 1) :=
  ⟨by have := h.1; omega, (stop_go h.1 h1 hp).symm.trans h.2.1, by have := h.le; omega⟩
theorem inv_no {p : Nat → Bool} {T : Str} {k i : Int} (h : Inv p T k i) (h1 : i < T.length) (hp : p (chr T i) = false) : i = stop p T k := (stop_no h.1 h1 hp).symm.trans h.2.1
theorem inv_end {p : Nat → Bool} {T : Str} {k i : Int} (h : Inv p T k i) (h1 : (T.length : Int) ≤ i) : i = stop p T k := (stop_end h1).symm.trans h.2.1
theorem inv_m {p : Nat → Bool} {T : Str} {k i : Int} (h : Inv p T k i) (h1 : i < T.length) : T.length - (i + 1).toNat < T.length - i.toNat := by have := h.1; omega
theorem item_one {T : Str} {i : Int} (h0 : 0 ≤ i) (h1 : i < T.length) : Txt.item T i = one (chr T i) := by
  unfold Txt.item one
  congr 1
  have e : Txt.charAt T i = some (chr T i) := by
    have hl : T.length = T.cps.size := rfl
    have h : i.toNat < T.cps.size := by omega
    have e1 : seqIndex? i T.length = some i.toNat := by
      unfold seqIndex?
      simp only [if_neg (show ¬ i < 0 by omega)]
      rw [if_pos]
      simp only [Bool.and_eq_true, decide_eq_true_eq]
      exact ⟨h0, h1⟩
    unfold Txt.charAt chr
    rw [e1]
    simp [h]
  rw [e]; rfl
/-- the sign c stands at i -/
def isAt (T : Str) (i : Int) (c : Nat) : Bool := decide ((tl T i).head? = some c)
theorem pk_one (T : Str) (i : Int) (c : Nat) : (pk T i == one c) = isAt T i c := by
  unfold pk isAt one
  rw [Bool.eq_iff_iff, decide_eq_true_eq, beq_iff_eq]
  cases tl T i with
  | nil => simp
  | cons a l => simp
theorem one_str (c : Nat) : Str.mk #[c] = one c := rfl
theorem pk_comma (T : Str) (i : Int) : (pk T i == Str.ofString ",") = isAt T i 44 := by
  rw [show Str.ofString "," = one 44 from by decide +kernel]; exact pk_one T i 44
theorem pk_dot (T : Str) (i : Int) : (pk T i == Str.ofString ".") = isAt T i 46 := by
  rw [show Str.ofString "." = one 46 from by decide +kernel]; exact pk_one T i 46
theorem pk_plus (T : Str) (i : Int) : (pk T i == Str.ofString "+") = isAt T i 43 := by
  rw [show Str.ofString "+" = one 43 from by decide +kernel]; exact pk_one T i 43
theorem pk_minus (T : Str) (i : Int) : (pk T i == Str.ofString "-") = isAt T i 45 := by
  rw [show Str.ofString "-" = one 45 from by decide +kernel]; exact pk_one T i 45
theorem pk_e (T : Str) (i : Int) : (pk T i == Str.ofString "e") = isAt T i 101 := by
  rw [show Str.ofString "e" = one 101 from by decide +kernel]; exact pk_one T i 101
theorem pk_E (T : Str) (i : Int) : (pk T i == Str.ofString "E") = isAt T i 69 := by
  rw [show Str.ofString "E" = one 69 from by decide +kernel]; exact pk_one T i 69
theorem pk_none (T : Str) (i : Int) : (pk T i == Str.ofString "") = (tl T i).isEmpty := by
  rw [show Str.ofString "" = ⟨#[]⟩ from by decide +kernel]
  unfold pk
  cases tl T i with
  | nil => rfl
  | cons a l => rfl
/-- a part of the text -/
def part (T : Str) (i j : Int) : Str := ⟨((tl T i).take (j - i).toNat).toArray⟩
theorem idx_clip {i j : Int} {n : Nat} (h0 : 0 ≤ i) (h1 : i ≤ j) : Builtin.Str.strSliceIndices (some i) (some j) 1 n = Builtin.Str.strSliceIndices (some (min i n)) (some (min j n)) 1 n := by
  have a1 : ¬ i < 0 := by omega
  have a2 : ¬ j < 0 := by omega
  have a3 : ¬ min i (n : Int) < 0 := by omega
  have a4 : ¬ min j (n : Int) < 0 := by omega
  have a5 : max (0 : Int) (min i n) = max 0 (min (min i n) n) := by omega
  have a6 : max (0 : Int) (min j n) = max 0 (min (min j n) n) := by omega
  simp only [Builtin.Str.strSliceIndices, a1, a2, a3, a4, if_false, show ((1 : Int) > 0) = True from by simp, if_true]
  rw [← a5, ← a6]
theorem slice_part {T : Str} {i j : Int} (h0 : 0 ≤ i) (h1 : i ≤ j) : Txt.slice T (some i) (some j) = part T i j := by
  have hl : T.length = T.cps.toList.length := by simp [Str.length]
  have e : Txt.slice T (some i) (some j) = Txt.slice T (some (min i T.length)) (some (min j T.length)) := by
    unfold Txt.slice
    rw [idx_clip h0 h1]
  rw [e, eq_of_beq (slice_closesL (x := T) (i := min i T.length) (j := min j T.length) (by omega) (by omega) (by omega))]
  unfold part tl
  congr 2
  by_cases h : i ≤ T.length
  · rw [Int.min_eq_left h]
    by_cases h2 : j ≤ T.length
    · rw [Int.min_eq_left h2]
    · rw [Int.min_eq_right (by omega), List.take_of_length_le (by rw [List.length_drop]; omega), List.take_of_length_le (by rw [List.length_drop]; omega)]
  · rw [Int.min_eq_right (show (T.length : Int) ≤ i by omega), Int.min_eq_right (show (T.length : Int) ≤ j by omega), List.drop_eq_nil_of_le (by omega), List.drop_eq_nil_of_le (by omega), List.take_nil, List.take_nil]
theorem slice_pk {T : Str} {i : Int} (h0 : 0 ≤ i) : Txt.slice T (some i) (some (i + 1)) = pk T i := by
  rw [slice_part h0 (by omega)]
  unfold part pk
  rw [show (i + 1 - i).toNat = 1 by omega]
def sgnAt (T : Str) (i : Int) : Bool := isAt T i 43 || isAt T i 45
def expAt (T : Str) (i : Int) : Bool := isAt T i 101 || isAt T i 69
/-- a sign of those that open a number stands at i -/
def looksAt (T : Str) (i : Int) : Bool := match tl T i with
  | [] => false
  | c :: _ => decide (c ∈ [43, 45, 46, 48, 49, 50, 51, 52, 53, 54, 55, 56, 57])
theorem beq_comm_str (x y : Str) : (x == y) = (y == x) := by
  rw [Bool.eq_iff_iff, beq_iff_eq, beq_iff_eq]; exact eq_comm
theorem any_s (T : Str) (i : Int) : ([Str.ofString "+", Str.ofString "-"].any fun x => x == pk T i) = sgnAt T i := by
  simp only [List.any_cons, List.any_nil, Bool.or_false]
  rw [beq_comm_str, pk_plus, beq_comm_str, pk_minus]; rfl
theorem any_e (T : Str) (i : Int) : ([Str.ofString "e", Str.ofString "E"].any fun x => x == pk T i) = expAt T i := by
  simp only [List.any_cons, List.any_nil, Bool.or_false]
  rw [beq_comm_str, pk_e, beq_comm_str, pk_E]; rfl
theorem looks_in {T : Str} {i : Int} (h : (tl T i).isEmpty = false) :
    (!(Builtin.Str.occurrences (Str.ofString "+-." ++ Str.ofString "0123456789") (pk T i) 0 (Str.ofString "+-." ++ Str.ofString "0123456789").length 1).isEmpty) = looksAt T i := by
  unfold looksAt pk
  cases e : tl T i with
  | nil => rw [e] at h; cases h
  | cons c l =>
    show (!(Builtin.Str.occurrences _ ⟨#[c]⟩ 0 _ 1).isEmpty) = _
    rw [StrLaws.found_one, show (Str.ofString "+-." ++ Str.ofString "0123456789").cps.toList = [43, 45, 46, 48, 49, 50, 51, 52, 53, 54, 55, 56, 57] from by decide +kernel]
theorem looks_nil {T : Str} {i : Int} (h : (tl T i).isEmpty = true) : (!(tl T i).isEmpty) = looksAt T i := by
  unfold looksAt
  cases e : tl T i with
  | nil => rfl
  | cons c l => rw [e] at h; cases h
/-- where an exponent that begins at k ends: k where none is -/
def expEnd (T : Str) (k : Int) : Int :=
  if expAt T k = true then
    (if sgnAt T (k + 1) = true then (if stop isD T (k + 1 + 1) - (k + 1 + 1) = 0 then k else stop isD T (k + 1 + 1)) else (if stop isD T (k + 1) - (k + 1) = 0 then k else stop isD T (k + 1)))
  else k
theorem expEnd_ge (T : Str) (k : Int) : k ≤ expEnd T k := by
  have h1 := stop_le isD T (k + 1 + 1)
  have h2 := stop_le isD T (k + 1)
  unfold expEnd
  repeat' split
  all_goals omega
/-- a comma with blanks, or blanks alone -/
def sepEnd (T : Str) (k : Int) : Int := if isAt T (stop isB T k) 44 = true then stop isB T (stop isB T k + 1) else stop isB T k
theorem sepEnd_ge (T : Str) (k : Int) : k ≤ sepEnd T k := by
  have h1 := stop_le isB T k
  have h2 := stop_le isB T (stop isB T k + 1)
  unfold sepEnd
  split <;> omega
/-- what skip takes at k, and where it ends -/
def skipOk (T : Str) (k : Int) (S : Str) : Bool := decide (k < T.length) && decide (chr T k ∈ S.cps.toList)
def skipS (T : Str) (k : Int) (S : Str) : Str := if skipOk T k S = true then one (chr T k) else Str.ofString ""
def skipE (T : Str) (k : Int) (S : Str) : Int := if skipOk T k S = true then k + 1 else k
theorem skip_yes {T : Str} {k : Int} {S : Str} (h1 : k < T.length) (h2 : chr T k ∈ S.cps.toList) : skipOk T k S = true := by
  unfold skipOk
  rw [decide_eq_true h1, decide_eq_true h2]; rfl
theorem skip_no {T : Str} {k : Int} {S : Str} (h2 : ¬ chr T k ∈ S.cps.toList) : skipOk T k S = false := by
  unfold skipOk
  rw [decide_eq_false h2, Bool.and_false]
theorem skip_end {T : Str} {k : Int} {S : Str} (h1 : ¬ k < (T.length : Int)) : skipOk T k S = false := by
  unfold skipOk
  rw [decide_eq_false h1]; rfl
theorem skipped {T : Str} {k : Int} {S : Str} {t : Tok} (h : skipOk T k S = true) : (∃ t', Value.str (one (chr T (k + 1 - 1))) t = .str (skipS T k S) t') ∧ k + 1 = skipE T k S := by
  unfold skipS skipE
  rw [if_pos h, if_pos h, show k + 1 - 1 = k by omega]
  exact ⟨⟨_, rfl⟩, rfl⟩
theorem unskipped {T : Str} {k : Int} {S : Str} {t : Tok} (h : skipOk T k S = false) : (∃ t', Value.str (Str.ofString "") t = .str (skipS T k S) t') ∧ k = skipE T k S := by
  unfold skipS skipE
  rw [h, if_neg Bool.false_ne_true, if_neg Bool.false_ne_true]
  exact ⟨⟨_, rfl⟩, rfl⟩

end
section
section
variable {prog : Program} {w : World} {A : Around} {E : Value → Shared → Prop} {s : Shared} {T : Str} {t u : Tok} {Q : Value → Shared → Prop}
theorem r_len (hT : Short T) (h : Q (.int T.length (s.toks + 1)) { s with toks := s.toks + 1 + 1 }) : wpAny (model prog w) A (call (.builtin "len") [.str T t]) Q E s :=
  P.len_str (by have := hT; unfold Short at this; omega) h
theorem r_item {value slice : PySem.Expr} {i : Int} (hT : Short T) (h0 : 0 ≤ i) (h1 : i < T.length) (h : Q (.str (one (chr T i)) s.toks) { s with toks := s.toks + 1 })
    (hs : subscripted slice false (.str T t) (.int i u) = operate [.str T t, .int i u] (getItem (.str T t) (.int i u)) := by with_unfolding_all rfl)
    (ht : ∀ r, letTemporaryGo value (.str T t) r = pure () := by intro _; with_unfolding_all rfl) :
    wpAny (model prog w) A (subscriptTail value slice (.str T t) (.int i u)) Q E s :=
  KXi.item (n := T.length) rfl (by omega) h1 (by unfold Short at hT; omega) (fun _ => by rw [item_one h0 h1]; exact h) hs ht
theorem r_pk {value slice : PySem.Expr} {i : Int} {ui uj : Tok} {h₀ : Heap} {L : Addr} {m : Str → Option Value} {news : List (Addr × Obj)} (F : Fr h₀ L s.heap m) (N : News h₀ L s.heap news) (hT : Short T) (h0 : 0 ≤ i)
    (h : ∀ h' t' k, Fr h₀ L h' m → News h₀ L h' news → Q (.str (pk T i) t') { s with heap := h', toks := k })
    (hs : subscripted slice false (.str T t) (.ref s.heap.objs.size) = operate [.ref s.heap.objs.size, .str T t] (getItem (.str T t) (.ref s.heap.objs.size)) := by with_unfolding_all rfl)
    (ht : ∀ r, letTemporaryGo value (.str T t) r = pure () := by intro _; with_unfolding_all rfl) :
    wpAny (model prog w) A (subscriptTail value slice (.str T t) (.ref s.heap.objs.size)) Q E { s with heap := s.heap.push { cls := .type "slice", data := .fields #[.int i ui, .int (i + 1) uj, .none] } } :=
  slice_strN_ss F N (fun h' t' k F' N' => by rw [slice_pk h0]; exact h h' t' k F' N') hs ht (Short.fits hT)
theorem r_part {value slice : PySem.Expr} {i j : Int} {ui uj : Tok} {h₀ : Heap} {L : Addr} {m : Str → Option Value} {news : List (Addr × Obj)} (F : Fr h₀ L s.heap m) (N : News h₀ L s.heap news) (hT : Short T) (h0 : 0 ≤ i) (h1 : i ≤ j)
    (h : ∀ h' t' k, Fr h₀ L h' m → News h₀ L h' news → Q (.str (part T i j) t') { s with heap := h', toks := k })
    (hs : subscripted slice false (.str T t) (.ref s.heap.objs.size) = operate [.ref s.heap.objs.size, .str T t] (getItem (.str T t) (.ref s.heap.objs.size)) := by with_unfolding_all rfl)
    (ht : ∀ r, letTemporaryGo value (.str T t) r = pure () := by intro _; with_unfolding_all rfl) :
    wpAny (model prog w) A (subscriptTail value slice (.str T t) (.ref s.heap.objs.size)) Q E { s with heap := s.heap.push { cls := .type "slice", data := .fields #[.int i ui, .int j uj, .none] } } :=
  slice_strN_ss F N (fun h' t' k F' N' => by rw [slice_part h0 h1]; exact h h' t' k F' N') hs ht (Short.fits hT)
theorem r_eq {x y : Str} {b : Bool} (e : (x == y) = b) (h : Q (.bool b) s) : wpAny (model prog w) A (compareOp .Eq (.str x t) (.str y u)) Q E s := eq_str (by rw [e]; exact h)
theorem r_ne {x y : Str} {b : Bool} (e : (x == y) = b) (h : Q (.bool (!b)) s) : wpAny (model prog w) A (compareOp .NotEq (.str x t) (.str y u)) Q E s := ne_str (by rw [show (x != y) = !(x == y) from rfl, e]; exact h)
theorem r_in {x : Str} {c : Nat} (h : Q (.bool (decide (c ∈ x.cps.toList))) s) : wpAny (model prog w) A (compareOp .In (.str (one c) u) (.str x t)) Q E s :=
  in_str (by rw [show (!(Builtin.Str.occurrences x (one c) 0 x.length 1).isEmpty) = decide (c ∈ x.cps.toList) from StrLaws.found_one x c]; exact h)
theorem r_inB {c : Nat} (h : Q (.bool (isB c)) s) : wpAny (model prog w) A (compareOp .In (.str (one c) u) (.str (Str.ofString " \t\n\x0d\x0c") t)) Q E s :=
  r_in (by rw [show (Str.ofString " \t\n\x0d\x0c").cps.toList = [32, 9, 10, 13, 12] from by decide +kernel]; exact h)
theorem r_inD {c : Nat} (h : Q (.bool (isD c)) s) : wpAny (model prog w) A (compareOp .In (.str (one c) u) (.str (Str.ofString "0123456789") t)) Q E s :=
  r_in (by rw [show (Str.ofString "0123456789").cps.toList = [48, 49, 50, 51, 52, 53, 54, 55, 56, 57] from by decide +kernel]; exact h)
theorem r_inL {k : Int} (e : (tl T k).isEmpty = false) (h : Q (.bool (looksAt T k)) s) : wpAny (model prog w) A (compareOp .In (.str (pk T k) u) (.str (Str.ofString "+-." ++ Str.ofString "0123456789") t)) Q E s :=
  in_str (by rw [looks_in e]; exact h)
end
theorem roomG {dp j k D lim : Nat} (h : dp + D < lim) (e : j + k ≤ D) : dp + j + k < lim := by omega
theorem roomA {dp k D lim : Nat} (h : dp + D < lim) (e : k ≤ D) : dp + k < lim := by omega
theorem roomZ {dp D lim : Nat} (h : dp + D < lim) : dp < lim := by omega
theorem neLt {a b : Nat} (h : @LT.lt Nat _ a b) : a ≠ b := Nat.ne_of_lt h
theorem neGt {a b : Nat} (h : @LT.lt Nat _ b a) : a ≠ b := (Nat.ne_of_lt h).symm

end
section
/-- what a def does that leaves no object behind -/
def FnC (w : World) (mean : ExcName → Option Value) (mg mb : Str → Option Value) (f : Addr) (args : List Value) (D U : Nat) (P : Value → Prop) : Prop :=
  ∀ (news : List (Addr × Obj)) (dp un : Nat) (gd : Option (List Code)) (cn : Str) (cs : Scope) (a : Addr) (ccd : Value) (cl : List (Str × Addr)) (outer : List Env) (A₀ : Around) (base h₀ : Heap) (L : Addr) (m : Str → Option Value) (s : Shared) (Q E : Value → Shared → Prop), Below A₀ base outer h₀ → Fr h₀ L s.heap m → (hd.heap_39 w.params).In h₀ → News h₀ L s.heap news → Top hd.view_39 (looseW hd.view_39 [Str.ofString "MOST_VALUE", Str.ofString "fraction"]) mean mg mb h₀ → cs.kind = .function → dp + D < recursionLimit → un + U < cLine →
    (∀ r h' tk', P r → Fr h₀ L h' m → News h₀ L h' news → Q r { s with heap := h', toks := tk' }) →
    wpAny (model PySem.Challenge.rw_xm0729_01.row.prog w) (ktrTop dp un gd cn cs L a ccd cl outer) (call (.ref f) args) Q E s
/-- what a def does that hands on one new tuple -/
def TuC (w : World) (mean : ExcName → Option Value) (mg mb : Str → Option Value) (f : Addr) (args : List Value) (D U : Nat) (vs : List Value → Prop) : Prop :=
  ∀ (news : List (Addr × Obj)) (dp un : Nat) (gd : Option (List Code)) (cn : Str) (cs : Scope) (a : Addr) (ccd : Value) (cl : List (Str × Addr)) (outer : List Env) (A₀ : Around) (base h₀ : Heap) (L : Addr) (m : Str → Option Value) (s : Shared) (Q E : Value → Shared → Prop), Below A₀ base outer h₀ → Fr h₀ L s.heap m → (hd.heap_39 w.params).In h₀ → News h₀ L s.heap news → Top hd.view_39 (looseW hd.view_39 [Str.ofString "MOST_VALUE", Str.ofString "fraction"]) mean mg mb h₀ → cs.kind = .function → dp + D < recursionLimit → un + U < cLine →
    (∀ x l h' tk', vs l → Fr h₀ L h' m → News h₀ L h' ((x, ({ cls := .type "tuple", data := .seq l.toArray } : Obj)) :: news) → (∀ p ∈ news, p.1 < x) → Q (.ref x) { s with heap := h', toks := tk' }) →
    wpAny (model PySem.Challenge.rw_xm0729_01.row.prog w) (ktrTop dp un gd cn cs L a ccd cl outer) (call (.ref f) args) Q E s

end
section
def GInv (a b f g : Int) : Prop := 0 ≤ f ∧ 0 ≤ g ∧ Int.gcd f g = Int.gcd a b
theorem ginv_start {a b : Int} (hb : 0 ≤ b) : GInv a b (if a < 0 then -a else a) b := by
  have e : (if a < 0 then -a else a) = (a.natAbs : Int) := by split <;> omega
  rw [e]
  exact ⟨by omega, hb, by simp [Int.gcd]⟩
theorem ginv_go {a b f g : Int} (h : GInv a b f g) (hg : 0 < g) : GInv a b g (Int.fmod f g) := by
  obtain ⟨h1, h2, h3⟩ := h
  rw [Int.fmod_eq_emod_of_nonneg _ h2]
  refine ⟨h2, Int.emod_nonneg _ (by omega), ?_⟩
  rw [← h3]
  obtain ⟨m, rfl⟩ := Int.eq_ofNat_of_zero_le h1
  obtain ⟨n, rfl⟩ := Int.eq_ofNat_of_zero_le h2
  show Nat.gcd _ _ = Nat.gcd _ _
  rw [show ((m : Int) % (n : Int)).natAbs = m % n from by rw [← Int.natCast_emod]; rfl]
  show Nat.gcd n (m % n) = Nat.gcd m n
  rw [Nat.gcd_comm n (m % n), ← Nat.gcd_rec, Nat.gcd_comm]
theorem ginv_end {a b f g : Int} (h : GInv a b f g) (hg : ¬ 0 < g) : f = (Int.gcd a b : Nat) := by
  obtain ⟨h1, h2, h3⟩ := h
  have : g = 0 := by omega
  subst this
  rw [← h3, Int.gcd_zero_right]
  omega
theorem ginv_m {a b f g : Int} (h : GInv a b f g) (hg : 0 < g) : (Int.fmod f g).toNat < g.toNat := by
  have h2 := h.2.1
  rw [Int.fmod_eq_emod_of_nonneg _ h2]
  have := Int.emod_lt_of_pos f hg
  have := Int.emod_nonneg f (by omega : g ≠ 0)
  omega
theorem gcd_pos9 {a b f : Int} (h : 0 < b) (e : f = (Int.gcd a b : Nat)) : 0 < f ∧ f ≤ b := by
  have := Int.gcd_pos_of_ne_zero_right a (by omega : b ≠ 0)
  have h2 := Int.le_of_dvd h (Int.gcd_dvd_right a b)
  omega

end
section
section
variable {prog : Program} {w : World} {A : Around} {E : Value → Shared → Prop} {s : Shared} {a b : Int} {t u : Tok} {Q : Value → Shared → Prop} {h₀ : Heap} {L l : Addr} {news : List (Addr × Obj)}
theorem r_mod (hb : 0 < b) (h : ∀ r, 0 ≤ r → r < b → Q (.int r s.toks) { s with toks := s.toks + 1 }) : wpAny (model prog w) A (binaryOp .Mod (.int a t) (.int b u)) Q E s :=
  mod_int' (by omega) (h _ (by rw [Int.fmod_eq_emod_of_nonneg _ (by omega)]; exact Int.emod_nonneg _ (by omega)) (by rw [Int.fmod_eq_emod_of_nonneg _ (by omega)]; exact Int.emod_lt_of_pos _ hb))
theorem r_div (ha : 0 ≤ a) (hb : 0 < b) (hb2 : b < 1000000) (h : ∀ r, 0 ≤ r → r ≤ a → Q (.int r s.toks) { s with toks := s.toks + 1 }) : wpAny (model prog w) A (binaryOp .FloorDiv (.int a t) (.int b u)) Q E s :=
  floordiv_int (by omega) (h _ (by rw [Int.fdiv_eq_ediv_of_nonneg _ (by omega)]; exact Int.ediv_nonneg ha (by omega)) (by rw [Int.fdiv_eq_ediv_of_nonneg _ (by omega)]; exact Int.ediv_le_self _ ha)) (Or.inl (PyProof.noPylong_small (by omega)))
theorem r_mul (ha : 0 ≤ a) (hb : 0 ≤ b) (hb2 : b < 18446744073709551616) (h : ∀ r, 0 ≤ r → Q (.int r s.toks) { s with toks := s.toks + 1 }) : wpAny (model prog w) A (binaryOp .Mult (.int a t) (.int b u)) Q E s :=
  mul_int (h _ (Int.mul_nonneg ha hb)) (IntMulOk.of_right (intBits_le_64 (by omega) (by omega)))
theorem r_li {value slice : PySem.Expr} {vs : List Value} {n : Nat} {k : Int} {v : Value} (N : News h₀ L s.heap news) (hm : (l, listOf vs.toArray n) ∈ news) (h0 : 0 ≤ k) (hk : k < 2 ^ 63) (hx : vs[k.toNat]? = some v) (h : Q v s)
    (hs : subscripted slice false (.ref l) (.int k u) = operate [.ref l, .int k u] (getItem (.ref l) (.int k u)) := by with_unfolding_all rfl) :
    wpAny (model prog w) A (subscriptTail value slice (.ref l) (.int k u)) Q E s :=
  have hl : s.heap.IsList l vs.toArray := News.isList N hm
  tail_any hl.typeIs slot_list_getitem.lookup (wpAny_getItem_list hl h0 hk (by simpa using hx) h) hs
end

end
section
/-- what a def does that draws from the source list l -/
def SrcC (w : World) (mean : ExcName → Option Value) (mg mb : Str → Option Value) (f : Addr) (l : Addr) (args : List Value) (D U : Nat) (need : List (Addr × Obj)) (P : Value → Prop) : Prop :=
  ∀ (rest : List (Addr × Obj)) (a1 b1 : Int) (ta tb : Tok) (n : Nat) (_ : ∀ p ∈ rest, p.1 ≠ l) (_ : ∀ p ∈ need, p ∈ rest) (_ : 0 ≤ a1) (_ : 0 ≤ b1) (_ : b1 < 2147483647),
    ∀ (dp un : Nat) (gd : Option (List Code)) (cn : Str) (cs : Scope) (a : Addr) (ccd : Value) (cl : List (Str × Addr)) (outer : List Env) (A₀ : Around) (base h₀ : Heap) (L : Addr) (m : Str → Option Value) (s : Shared) (Q E : Value → Shared → Prop), Below A₀ base outer h₀ → Fr h₀ L s.heap m → (hd.heap_39 w.params).In h₀ → News h₀ L s.heap ((l, listOf #[.int a1 ta, .int b1 tb] n) :: rest) → Top hd.view_39 (looseW hd.view_39 [Str.ofString "MOST_VALUE", Str.ofString "fraction"]) mean mg mb h₀ → cs.kind = .function → dp + D < recursionLimit → un + U < cLine →
    (∀ r a2 t2 b2 t3 n2 h' tk', P r → 0 ≤ a2 → 0 ≤ b2 → b2 < 2147483647 → Fr h₀ L h' m → News h₀ L h' ((l, listOf #[.int a2 t2, .int b2 t3] n2) :: rest) → Q r { s with heap := h', toks := tk' }) →
    wpAny (model PySem.Challenge.rw_xm0729_01.row.prog w) (ktrTop dp un gd cn cs L a ccd cl outer) (call (.ref f) (.ref l :: args)) Q E s
/-- the same at a call -/
theorem src_use {w : World} {mean : ExcName → Option Value} {mg mb : Str → Option Value} {f l : Addr} {args : List Value} {D U : Nat} {need : List (Addr × Obj)} {P : Value → Prop} (C : SrcC w mean mg mb f l args D U need P)
    {a1 b1 : Int} {ta tb : Tok} {n : Nat} {news : List (Addr × Obj)} {news' : Int → Tok → Int → Tok → Nat → List (Addr × Obj)}
    {dp un : Nat} {gd : Option (List Code)} {cn : Str} {cs : Scope} {a : Addr} {ccd : Value} {cl : List (Str × Addr)} {outer : List Env} {A₀ : Around} {base h₀ : Heap} {L : Addr} {m : Str → Option Value} {s : Shared} {Q E : Value → Shared → Prop}
    (B : Below A₀ base outer h₀) (F : Fr h₀ L s.heap m) (X : (hd.heap_39 w.params).In h₀) (N : News h₀ L s.heap news) (TT : Top hd.view_39 (looseW hd.view_39 [Str.ofString "MOST_VALUE", Str.ofString "fraction"]) mean mg mb h₀) (hck : cs.kind = .function)
    (Up : ∀ a2 t2 b2 t3 n2, Upd l (listOf #[.int a1 ta, .int b1 tb] n) (listOf #[.int a2 t2, .int b2 t3] n2) news (news' a2 t2 b2 t3 n2)) (ha : 0 ≤ a1) (hb : 0 ≤ b1) (hb2 : b1 < 2147483647)
    (hneed : ∀ p ∈ need, p ∈ news ∧ p.1 ≠ l)
    (hdp : dp + D < recursionLimit) (hun : un + U < cLine)
    (hret : ∀ r a2 t2 b2 t3 n2 h' tk', P r → 0 ≤ a2 → 0 ≤ b2 → b2 < 2147483647 → Fr h₀ L h' m → News h₀ L h' (news' a2 t2 b2 t3 n2) → Q r { s with heap := h', toks := tk' }) :
    wpAny (model PySem.Challenge.rw_xm0729_01.row.prog w) (ktrTop dp un gd cn cs L a ccd cl outer) (call (.ref f) (.ref l :: args)) Q E s := by
  obtain ⟨pre, post, e1, _, n1, n2⟩ := (Up a1 ta b1 tb n).split
  have hne : ∀ p ∈ pre ++ post, p.1 ≠ l := fun p hp => (List.mem_append.mp hp).elim (n1 p) (n2 p)
  refine C (pre ++ post) a1 b1 ta tb n hne (fun p hp => ?_) ha hb hb2 dp un gd cn cs a ccd cl outer A₀ base h₀ L m s Q E B F X (fun p hp => N p ?_) TT hck hdp hun fun r a2 t2 b2 t3 n2 h' tk' hp q1 q2 q3 F' N' => hret r a2 t2 b2 t3 n2 h' tk' hp q1 q2 q3 F' fun p hp' => N' p ?_
  · obtain ⟨h1, h2⟩ := hneed p hp
    rw [e1] at h1
    rcases List.mem_append.mp h1 with h1 | h1
    · exact List.mem_append_left _ h1
    · rcases List.mem_cons.mp h1 with rfl | h1
      · exact absurd rfl h2
      · exact List.mem_append_right _ h1
  · rw [e1]
    rcases List.mem_cons.mp hp with rfl | hp
    · exact List.mem_append_right _ (.head _)
    · rcases List.mem_append.mp hp with hp | hp
      · exact List.mem_append_left _ hp
      · exact List.mem_append_right _ (.tail _ hp)
  · obtain ⟨pre', post', e1', e2', n1', n2'⟩ := (Up a2 t2 b2 t3 n2).split
    obtain ⟨ep, eo⟩ : pre' = pre ∧ post' = post := upd_same (e1'.symm.trans e1) n1' n1
    subst ep eo
    rw [e2'] at hp'
    rcases List.mem_append.mp hp' with hp' | hp'
    · exact .tail _ (List.mem_append_left _ hp')
    · rcases List.mem_cons.mp hp' with rfl | hp'
      · exact .head _
      · exact .tail _ (List.mem_append_right _ hp')

end
section
/-- the parts of a decimal text -/
def rA (T : Str) : Int := skipE T 0 (Str.ofString "+-")
def rB (T : Str) : Int := stop isD T (rA T)
def rD (T : Str) : Int := skipE T (rB T) (Str.ofString ".")
def rC (T : Str) : Int := if skipS T (rB T) (Str.ofString ".") != Str.ofString "" then stop isD T (rD T) else rD T
def rP (T : Str) : Str := if skipS T (rB T) (Str.ofString ".") != Str.ofString "" then part T (rD T) (stop isD T (rD T)) else Str.ofString ""
/-- the parts of an exponent at k -/
def xA (T : Str) (k : Int) : Int := skipE T k (Str.ofString "eE")
def xB (T : Str) (k : Int) : Int := skipE T (xA T k) (Str.ofString "+-")
def xC (T : Str) (k : Int) : Int := stop isD T (xB T k)
theorem rA_def (T : Str) : skipE T 0 (Str.ofString "+-") = rA T := rfl
theorem rB_def (T : Str) : stop isD T (rA T) = rB T := rfl
theorem rD_def (T : Str) : skipE T (rB T) (Str.ofString ".") = rD T := rfl
theorem xA_def (T : Str) (k : Int) : skipE T k (Str.ofString "eE") = xA T k := rfl
theorem xB_def (T : Str) (k : Int) : skipE T (xA T k) (Str.ofString "+-") = xB T k := rfl
theorem xC_def (T : Str) (k : Int) : stop isD T (xB T k) = xC T k := rfl
theorem skipE_nn {T : Str} {k : Int} {S : Str} (h : 0 ≤ k) : 0 ≤ skipE T k S := by unfold skipE; split <;> omega
theorem rA_nn (T : Str) : 0 ≤ rA T := skipE_nn (by decide)
theorem rB_nn (T : Str) : 0 ≤ rB T := Int.le_trans (rA_nn T) (stop_le _ _ _)
theorem rD_nn (T : Str) : 0 ≤ rD T := skipE_nn (rB_nn T)
theorem rC_nn (T : Str) : 0 ≤ rC T := by
  unfold rC
  split
  · exact Int.le_trans (rD_nn T) (stop_le _ _ _)
  · exact rD_nn T
theorem xA_nn {T : Str} {k : Int} (h : 0 ≤ k) : 0 ≤ xA T k := skipE_nn h
theorem xB_nn {T : Str} {k : Int} (h : 0 ≤ k) : 0 ≤ xB T k := skipE_nn (xA_nn h)
def JoinRd (_n : Nat) (_T : Str) : Prop := True
theorem fr_p1 {g : Heap} {L : Addr} {h : Heap} {m : Str → Option Value} {a1 a2 v : Option Value} (F : Fr g L h (fun y => if y = Str.ofString "sign" then a1 else if y = Str.ofString "whole" then a2 else if y = Str.ofString "parts" then v else m y)) : Fr g L h (fun y => if y = Str.ofString "parts" then v else if y = Str.ofString "sign" then a1 else if y = Str.ofString "whole" then a2 else m y) := by
  have e : (fun y => if y = Str.ofString "sign" then a1 else if y = Str.ofString "whole" then a2 else if y = Str.ofString "parts" then v else m y) = (fun y => if y = Str.ofString "parts" then v else if y = Str.ofString "sign" then a1 else if y = Str.ofString "whole" then a2 else m y) := by
    funext y
    by_cases h : y = Str.ofString "parts"
    · rw [if_pos h, if_pos h, if_neg (by rw [h]; decide), if_neg (by rw [h]; decide)]
    · rw [if_neg h, if_neg h]
  exact e ▸ F
theorem fr_p2 {g : Heap} {L : Addr} {h : Heap} {m : Str → Option Value} {a1 a2 v v' : Option Value} (F : Fr g L h (fun y => if y = Str.ofString "parts" then v else if y = Str.ofString "sign" then a1 else if y = Str.ofString "whole" then a2 else if y = Str.ofString "parts" then v' else m y)) : Fr g L h (fun y => if y = Str.ofString "parts" then v else if y = Str.ofString "sign" then a1 else if y = Str.ofString "whole" then a2 else m y) := by
  have e : (fun y => if y = Str.ofString "parts" then v else if y = Str.ofString "sign" then a1 else if y = Str.ofString "whole" then a2 else if y = Str.ofString "parts" then v' else m y) = (fun y => if y = Str.ofString "parts" then v else if y = Str.ofString "sign" then a1 else if y = Str.ofString "whole" then a2 else m y) := by
    funext y
    by_cases h : y = Str.ofString "parts"
    · rw [if_pos h, if_pos h]
    · rw [if_neg h, if_neg h, if_neg h]
  exact e ▸ F
theorem joinRd1 {M : Model} {A : Around} {t : Sem Flow} {Q : Flow → Shared → Prop} {E : Value → Shared → Prop} {hp g : Heap} {gg dd os} {L : Addr} {m : Str → Option Value} {a1 a2 : Option Value} {T p0 : Str} {j : Int} {e1 : DictEntry} {c2 k2} {td tn : Tok} {t0 : Nat} {d : Addr} {z q : Addr × Obj} {rest : List (Addr × Obj)}
    (_ : JoinRd 1 T) (_ : Fr g L hp (fun y => if y = Str.ofString "sign" then a1 else if y = Str.ofString "whole" then a2 else if y = Str.ofString "parts" then some (.str p0 tn) else m y)) (_ : News g L hp (z :: q :: (d, dictOf [e1, ⟨c2, k2, .int j td⟩] 2) :: rest))
    (h : ∀ Q' : Flow → Shared → Prop, (∀ h' tk' td' i n' tn', i = rC T → n' = rP T → Fr g L h' (fun y => if y = Str.ofString "parts" then some (.str n' tn') else if y = Str.ofString "sign" then a1 else if y = Str.ofString "whole" then a2 else m y) → News g L h' (q :: (d, dictOf [e1, ⟨c2, k2, .int i td'⟩] 2) :: rest) → Q' .next ⟨h', gg, dd, tk', os⟩) → wpAny M A t Q' E ⟨hp, gg, dd, t0, os⟩)
    (hQ : ∀ h' tk' td' tn', Fr g L h' (fun y => if y = Str.ofString "parts" then some (.str (rP T) tn') else if y = Str.ofString "sign" then a1 else if y = Str.ofString "whole" then a2 else m y) → News g L h' (q :: (d, dictOf [e1, ⟨c2, k2, .int (rC T) td'⟩] 2) :: rest) → Q .next ⟨h', gg, dd, tk', os⟩) : wpAny M A t Q E ⟨hp, gg, dd, t0, os⟩ :=
  h Q fun h' tk' td' i n' tn' hi hn F N => hQ h' tk' td' tn' (hn ▸ F) (hi ▸ N)
theorem joinRd2 {M : Model} {A : Around} {t : Sem Flow} {Q : Flow → Shared → Prop} {E : Value → Shared → Prop} {hp g : Heap} {gg dd os} {L : Addr} {m : Str → Option Value} {T : Str} {t0 : Nat} {news : List (Addr × Obj)}
    (_ : JoinRd 2 T) (_ : Fr g L hp m) (_ : News g L hp news)
    (h : ∀ Q' : Flow → Shared → Prop, (∀ h' tk', Fr g L h' m → News g L h' news → Q' .next ⟨h', gg, dd, tk', os⟩) → wpAny M A t Q' E ⟨hp, gg, dd, t0, os⟩)
    (hQ : ∀ h' tk', Fr g L h' m → News g L h' news → Q .next ⟨h', gg, dd, tk', os⟩) : wpAny M A t Q E ⟨hp, gg, dd, t0, os⟩ :=
  h Q hQ
theorem fr_twice' {g : Heap} {L : Addr} {h : Heap} {m : Str → Option Value} {a : Str} {v v' : Option Value} (F : Fr g L h (fun y => if y = a then v else if y = a then v' else m y)) : Fr g L h (fun y => if y = a then v else m y) := by
  have e : (fun y => if y = a then v else if y = a then v' else m y) = (fun y => if y = a then v else m y) := by
    funext y
    by_cases h : y = a <;> simp [h]
  exact e ▸ F
section
variable {prog : Program} {w : World} {A : Around} {E : Value → Shared → Prop} {s : Shared} {t u : Tok} {Q : Value → Shared → Prop} {x y : Str} {b : Bool}
theorem r_glen (hT : x.length ≤ 4096) (h : Q (.int x.length (s.toks + 1)) { s with toks := s.toks + 1 + 1 }) : wpAny (model prog w) A (call (.builtin "len") [.str x t]) Q E s := P.len_str (by omega) h
theorem r_geq (e : (x == y) = b) (h : Q (.bool b) s) : wpAny (model prog w) A (compareOp .Eq (.str x t) (.str y u)) Q E s := eq_str (by rw [e]; exact h)
theorem r_gne (e : (x == y) = b) (h : Q (.bool (!b)) s) : wpAny (model prog w) A (compareOp .NotEq (.str x t) (.str y u)) Q E s := ne_str (by rw [show (x != y) = !b by rw [← e]; rfl]; exact h)
theorem r_gmax {c r : Int} {h₀ : Heap} {L : Addr} {m : Str → Option Value} {news : List (Addr × Obj)} (he : (if c > 0 then c else 0) = r) (hh : A.handled = none) (F : Fr h₀ L s.heap m) (N : News h₀ L s.heap news)
    (h : ∀ h' tk t', Fr h₀ L h' m → News h₀ L h' news → Q (.int r t') { s with heap := h', toks := tk }) :
    wpAny (model prog w) A (call (.builtin "max") [.int 0 t, .int c u]) Q E s :=
  max_two_N hh F N fun h' tk F' N' => by rw [he]; exact h h' tk _ F' N'
theorem r_gpow {r p : Int} (hp : (10 : Int) ^ r.toNat = p) (hr : 0 ≤ r) (hr2 : r ≤ 400) (h : Q (.int p s.toks) { s with toks := s.toks + 1 }) :
    wpAny (model prog w) A (binaryOp .Pow (.int 10 t) (.int r u)) Q E s := pow_int_small hr (by omega) (by decide) (by rw [hp]; exact h)
end
theorem v_neg {sb : Bool} {n : Int} {t : Tok} (h : sb = true) : ∃ t', Value.int (-n) t = .int (if sb = true then -n else n) t' := ⟨t, by rw [if_pos h]⟩
theorem v_pos {sb : Bool} {n : Int} {t : Tok} (h : sb = false) : ∃ t', Value.int n t = .int (if sb = true then -n else n) t' := ⟨t, by rw [if_neg (by rw [h]; decide)]⟩
theorem sg_neg {sb : Bool} {v : Int} (h : sb = true) : -v = (if sb = true then -v else v) := (if_pos h).symm
theorem sg_pos {sb : Bool} {v : Int} (h : sb = false) : v = (if sb = true then -v else v) := (if_neg (by rw [h]; decide)).symm

end
section
/-- the nine spellings (and the two of the law's first line) and what they say -/
def wdS (i : Nat) : Str := Str.ofString (["0", "12", "-2.5", ".5", "+3", "1e2", "4.", "-.25", "5E-1", "1", "2"].getD i "")
def wdN (i : Nat) : Int × Int := [((0 : Int), (1 : Int)), (12, 1), (-5, 2), (1, 2), (3, 1), (100, 1), (4, 1), (-1, 4), (1, 2), (1, 1), (2, 1)].getD i (0, 1)
theorem nine {α : Type} {v0 v1 v2 v3 v4 v5 v6 v7 v8 r : α} {i : Nat} (hi : i < 9) (h : [v0, v1, v2, v3, v4, v5, v6, v7, v8][i]? = some r) :
    (i = 0 ∧ r = v0) ∨ (i = 1 ∧ r = v1) ∨ (i = 2 ∧ r = v2) ∨ (i = 3 ∧ r = v3) ∨ (i = 4 ∧ r = v4) ∨ (i = 5 ∧ r = v5) ∨ (i = 6 ∧ r = v6) ∨ (i = 7 ∧ r = v7) ∨ (i = 8 ∧ r = v8) := by
  have : i = 0 ∨ i = 1 ∨ i = 2 ∨ i = 3 ∨ i = 4 ∨ i = 5 ∨ i = 6 ∨ i = 7 ∨ i = 8 := by omega
  rcases this with rfl | rfl | rfl | rfl | rfl | rfl | rfl | rfl | rfl <;> simp_all

end
section
open Builtin Builtin.ObjectAttr
/-- what the part K tells of a class of exceptions of one's own -/
def excK (K : Frag) (C : Addr) : Bool := match K.lookup C with
  | some ⟨.type "type", _, .cls cd, sl⟩ => (match cd.mro, sl.toList with
    | .ref C' :: bm, [_, _, _, _, some (.builtin n), _] => C' == C && n == "Exception.__new__" && !cd.hasDel && bm.contains (.type "Exception") && bm.contains (.type "BaseException") && !bm.contains (.type "AttributeError") && !bm.contains (.type "NameError")
    | _, _ => false)
  | _ => false
structure ExcCl (C : Addr) (h : Heap) : Prop where
  obj : ∃ bm nm q N bs hdct sn sub ab col dd k0 k1 k2 k3 k5, h.get? C = some (excClassObj nm q C N bs bm hdct sn sub ab col dd k0 k1 k2 k3 k5 "Exception.__new__") ∧
    bm.contains (.type "Exception") = true ∧ bm.contains (.type "BaseException") = true ∧ bm.contains (.type "AttributeError") = false ∧ bm.contains (.type "NameError") = false
theorem excK_of {K : Frag} {h : Heap} {C : Addr} (X : K.In h) (e : excK K C = true) : ExcCl C h := by
  unfold excK at e
  split at e
  · rename_i dd cd sl ho
    split at e
    · rename_i C' bm k0 k1 k2 k3 n k5 hm hs
      simp only [Bool.and_eq_true, beq_iff_eq, Bool.not_eq_true'] at e
      obtain ⟨⟨⟨⟨⟨⟨rfl, rfl⟩, hdel⟩, h1⟩, h2⟩, h3⟩, h4⟩ := e
      obtain ⟨nm, bs, mro, ns, qn, hd, sn, sub, ab, col, del⟩ := cd
      dsimp only at hm hdel
      subst hm hdel
      have hsl : sl = #[k0, k1, k2, k3, some (.builtin "Exception.__new__"), k5] := by
        obtain ⟨l⟩ := sl
        simp only at hs
        rw [hs]
      subst hsl
      exact ⟨bm, nm, qn, ns, bs, hd, sn, sub, ab, col, dd, k0, k1, k2, k3, k5, X _ _ ho, h1, h2, h3, h4⟩
    · cases e
  · cases e
section
variable {prog : Program} {w : World} {A : Around} {E : Value → Shared → Prop} {h : Heap} {g : Array GenState} {d : Drawn} {t : Nat} {os : OsState} {R : Result → Shared → Prop}
variable {nm q : Str} {C N : Addr} {bs bm : List Value} {hdct : Bool} {sn : List Str} {sub : List Value} {ab : Bool} {col : Option Bool} {dd : Option Addr} {k0 k1 k2 k3 k5 : Option Value}
/-- the object as it is made -/
abbrev excObj (C tu : Addr) (dd : Option Addr) : Obj := { cls := .ref C, dict := dd, data := .fields #[.ref tu, .none, .none, .none, .bool false, .none] }
theorem exc_new {rest : List Value} (hC : h.get? C = some (excClassObj nm q C N bs bm hdct sn sub ab col dd k0 k1 k2 k3 k5 "Exception.__new__"))
    (c1 : bm.contains (.type "Exception") = true) (c3 : bm.contains (.type "AttributeError") = false) (c4 : bm.contains (.type "NameError") = false)
    (hq : R (.ok (.ret (.ref (h.objs.size + 1)))) ⟨(h.push { cls := .type "tuple", data := .seq rest.toArray }).push (excObj C h.objs.size none), g, d, t, os⟩) (hrest : rest.length ≤ sizeLine) :
    codeAny (model prog w) A (.builtin "Exception.__new__" ⟨.ref C :: rest, []⟩) R ⟨h, g, d, t, os⟩ := by
  have F := PySem.F.excBase_Exception
  have hends := F.ends
  have hcB : (Value.ref C :: bm).contains (.type "Exception") = true := by rw [List.contains_cons, c1, Bool.or_true]
  have hcA : (Value.ref C :: bm).contains (.type "AttributeError") = false := by rw [List.contains_cons, c3]; rfl
  have hcN : (Value.ref C :: bm).contains (.type "NameError") = false := by rw [List.contains_cons, c4]; rfl
  refine codeAny_builtinAt F.entry ?_
  unfold Builtin.«BaseException.__new__»
  refine PySem.wpAt_bind ?_
  show PySem.wpAt _ _ _ (stack >>= _) _ _ _
  refine PySem.wpAt_bind (PySem.wpAt_stack fun p below => PySem.wpAt_of_wpAny ?_)
  wp_walk
  refine PySem.wpAt_of_wpAny ?_
  rw [F.owner]
  repeat (first | with_reducible refine wpAny_madeHere_exc F.canon hC ?_ | with_reducible refine wpAny_loadPart_at hC ?_ | (with_reducible refine wpAny_isSubtype_exc hC ?_; first | rw [hcB] | rw [hcA] | rw [hcN]) | wp_step)
  show R _ _
  rw [Heap.size_push]
  exact hq
theorem exc_check {M : Model} {rest : List Value} {Q : Unit → Shared → Prop} (hC : h.get? C = some (excClassObj nm q C N bs bm hdct sn sub ab col dd k0 k1 k2 k3 k5 "Exception.__new__"))
    (c1 : bm.contains (.type "Exception") = true) (hq : Q () ⟨h, g, d, t, os⟩) : wpAny M A (checkBuiltinCall "Exception.__new__" ⟨.ref C :: rest, []⟩) Q E ⟨h, g, d, t, os⟩ := by
  have F := PySem.F.excBase_Exception
  have hcont : (Value.ref C :: bm).contains (.type "Exception") = true := by rw [List.contains_cons, c1, Bool.or_true]
  have hstar := F.noStar
  simp only [checkBuiltinCall, F.newKind, F.newSplit, F.newRow]
  repeat (first | refine wpAny_loadPart_at hC ?_ | (refine wpAny_isSubtype_exc hC ?_; rw [hcont]) | refine wpAny_staticBase_exc hC ?_ | refine wpAny_madeBy_exc hC ?_ | simp only [bne_self_eq_false, Bool.false_eq_true, if_false] | wp_step)
  exact hq
theorem exc_type_call {rest : List Value} {fI : Addr} {K : Frag} {Q : Fin → Shared → Prop} (X : K.In h)
    (hC : h.get? C = some (excClassObj nm q C N bs bm hdct sn sub ab col dd k0 k1 k2 k3 k5 "Exception.__new__"))
    (c1 : bm.contains (.type "Exception") = true) (c3 : bm.contains (.type "AttributeError") = false) (c4 : bm.contains (.type "NameError") = false)
    (hi : findIn K (.ref C) "__init__" = some (some (.ref fI))) (hf : typeIn K (.ref fI) = some (.type "function"))
    (hq : wpAny (model prog w) A (call (.ref fI) (.ref (h.objs.size + 1) :: rest)) (fun r s' => r = .none ∧ Q (.done (.ret (.ref (h.objs.size + 1)))) s') E
      ⟨(h.push { cls := .type "tuple", data := .seq rest.toArray }).push (excObj C h.objs.size none), g, d, t, os⟩) (hrest : rest.length ≤ sizeLine) :
    wpAny (model prog w) A (Builtin.«type.__call__» ⟨.ref C :: rest, []⟩) Q E ⟨h, g, d, t, os⟩ := by
  have F := PySem.F.excBase_Exception
  repeat (first | with_reducible refine wpAny_loadPart_at hC ?_ | with_reducible refine wpAny_madeBy_exc hC ?_ | wp_step)
  refine codeAny_call_builtin_code (Code.quiet_builtin _ F.quiet) (exc_check hC c1 ?_)
  refine exc_new hC c1 c3 c4 ?_ hrest
  show wpAny _ _ _ _ _ _
  have kk : ∀ b o, h.get? b = some o → ((h.push { cls := .type "tuple", data := .seq rest.toArray }).push (excObj C h.objs.size none)).get? b = some o := fun b o e => Heap.get?_push_of_some _ (Heap.get?_push_of_some _ e)
  have hC₁ := kk _ _ hC
  have X₁ : K.In ((h.push { cls := .type "tuple", data := .seq rest.toArray }).push (excObj C h.objs.size none)) := X.keeps kk
  have hget : ((h.push { cls := .type "tuple", data := .seq rest.toArray }).push (excObj C h.objs.size none)).get? (h.objs.size + 1) = some (excObj C h.objs.size none) := by heap_get
  have hcC : (Value.ref C :: bm).contains (.ref C) = true := by simp
  unfold isInstance
  repeat (first | with_reducible refine wpAny_loadPart_at hget ?_ | (with_reducible refine wpAny_isSubtype_exc hC₁ ?_; rw [hcC]) | wp_step)
  show wpAny _ _ (typeLookup (.ref C) _) _ _ _
  refine (looks_findIn (M := model prog w) X₁ hi).here ?_
  refine wpAny_holding (wpAny_bind ?_)
  refine (bind_fn (M := model prog w) X₁ _ hf).here ?_
  refine wpAny_bind (wpAny_mono hq (fun r s' hr => ?_) fun _ _ x => x)
  obtain ⟨rfl, hQ⟩ := hr
  wp_walk
  exact hQ
theorem exc_call {rest : List Value} {fI : Addr} {K : Frag} {Q : Value → Shared → Prop} (X : K.In h) (c : ExcCl C h)
    (hi : findIn K (.ref C) "__init__" = some (some (.ref fI))) (hf : typeIn K (.ref fI) = some (.type "function"))
    (hq : wpAny (model prog w) (A.under (.builtin "type.__call__" ⟨.ref C :: rest, []⟩)) (call (.ref fI) (.ref (h.objs.size + 1) :: rest)) (fun r s' => r = .none ∧ Q (.ref (h.objs.size + 1)) s') E
      ⟨(h.push { cls := .type "tuple", data := .seq rest.toArray }).push (excObj C h.objs.size none), g, d, t, os⟩) (hrest : rest.length ≤ sizeLine) :
    wpAny (model prog w) A (call (.ref C) rest) Q E ⟨h, g, d, t, os⟩ := by
  obtain ⟨bm, nm, q, N, bs, hdct, sn, sub, ab, col, dd, k0, k1, k2, k3, k5, hC, c1, c2, c3, c4⟩ := c.obj
  have f1 := tc_lookup
  have f2 := PySem.tc_bind (.ref C)
  have hT : (⟨h, g, d, t, os⟩ : Shared).TypeIs (.ref C) "type" := ⟨_, hC, rfl⟩
  refine wpAny_call (codeAny_of_tree ?_)
  show wpAny _ _ (callAny (.ref C) _) _ _ _
  repeat (any_goals (first | assumption | with_reducible refine wpAny_loadPart_at hC ?_ | wp_step))
  refine ⟨rfl, ?_⟩
  exact codeAny_call_builtin_at (Code.quiet_builtin _ (by decide +kernel)) entry_typeCall (wpAny_check_type_call_sub hC (exc_type_call X hC c1 c3 c4 hi hf hq hrest))
end

end
section
open Builtin Builtin.ObjectAttr
def excTail : List Value → Bool
  | [.type "Exception", .type "BaseException", .type "object"] => true
  | .ref _ :: r => excTail r
  | _ => false
theorem refuse_exc (self : Value) : ∀ {l : List Value}, excTail l = true → refuseLoop self "__setattr__" l = pure ()
  | .ref c :: r, e => by rw [refuseLoop_ref]; exact refuse_exc self (by unfold excTail at e; exact e)
  | .type n :: r, e => by
    unfold excTail at e
    split at e
    · rename_i q
      cases q
      exact PySem.F.store_Exception.passes self
    · rename_i q; cases q
    · cases e
theorem exc_has : ∀ {l : List Value}, excTail l = true → l.contains (.type "object") = true
  | .ref c :: r, e => by rw [List.contains_cons, exc_has (l := r) (by unfold excTail at e; exact e), Bool.or_true]
  | .type n :: r, e => by
    unfold excTail at e
    split at e
    · rename_i q
      cases q
      rfl
    · rename_i q; cases q
    · cases e
def excOver (K : Frag) (C : Addr) : Bool := (clsIn K C).any fun cd => excTail cd.mro
section
variable {prog : Program} {w : World} {A : Around} {K : Frag} {C x : Addr} {s : Shared} {h₀ : Heap} {L : Addr} {m : Str → Option Value} {news : List (Addr × Obj)} {R : Result → Shared → Prop} {E : Value → Shared → Prop}
theorem osaE_open {ox : Obj} {od : Option Obj} {name : Str} {tk : Tok} {v : Value} (X : K.In s.heap) (I : InstAt s.heap x ox C od) (hp : excOver K C = true) (ht : takerIn K C name = some none)
    (h : ∀ b, wpAny (model prog w) A.in1 (storeInOwnDict (.ref x) (.ref C) (.str name tk) name v b)
      (fun fin s' => match fin with | .done f => R (.ok f) s' | .again c' => c'.quiet = true ∧ codeAny (model prog w) A c' R s') (fun e s' => R (.error e) s') s) :
    codeAny (model prog w) A (.call (.builtin "object.__setattr__") ⟨[.ref x, .str name tk, v], []⟩) R s := by
  have SF := PySem.F.store_object
  obtain ⟨cd, hc, ho⟩ := any_some hp
  have ne : cd.mro.isEmpty = false := by cases q : cd.mro with | nil => rw [q] at ho; cases ho | cons _ _ => rfl
  have sub : Looks (model prog w) s.heap (isInstance (.ref x) (.type "object")) true := I.type.andThen (looks_mroIn X (by unfold mroIn; rw [hc, Option.bind_some, if_neg (by rw [ne]; decide), exc_has ho]))
  refine codeAny_call_builtin SF.slot.plain SF.entry (@check_slot (model prog w) _ _ s "object.__setattr__" "object" "__setattr__" (.ref x) [.str name tk, v] [] _ SF.kind SF.split sub (SF.args (.ref x) (.str name tk) v) ?_)
  obtain ⟨attr, ha, hr⟩ := Option.bind_eq_some_iff.mp ht
  have hm : Looks (model prog w) s.heap (mroOf (.ref C)) cd.mro := (looks_clsIn X hc).andThen .now
  have L3 : Looks (model prog w) s.heap (storeTaker? attr) none := by
    cases attr with
    | none => exact .now
    | some a =>
      obtain ⟨b, hb, hn⟩ := Option.map_eq_some_iff.mp hr
      refine (looks_takesIn X hb).andThen ?_
      cases b <;> first | exact .now | cases hn
  rw [osa_eq, refuse_eq]
  refine wpAny_bind (wpAny_bind (I.type.here (wpAny_bind (hm.here ?_))))
  rw [refuse_exc _ ho]
  refine wpAny_pure (wpAny_bind (I.type.here (wpAny_bind ((looks_findIn X ha).here (wpAny_bind (L3.here ?_))))))
  exact h _
theorem osaE_first {tu : Addr} {name : Str} {tk : Tok} {v : Value} {news' : Addr → List (Addr × Obj)} (F : Fr h₀ L s.heap m) (N : News h₀ L s.heap news) (X : K.In s.heap)
    (U : ∀ d, Upd x (excObj C tu none) (excObj C tu (some d)) news (news' d)) (hp : excOver K C = true) (ht : takerIn K C name = some none) (hh : (clsIn K C).any (·.hasDict) = true)
    (h : ∀ d h', Fr h₀ L h' m → News h₀ L h' ((d, dictOf [⟨PyData.keyHash w.params name, .str name s.toks, v⟩] 1) :: news' d) → (∀ p ∈ news, p.1 < d) → R (.ok (.ret .none)) { s with heap := h', toks := s.toks + 1 }) :
    codeAny (model prog w) A (.call (.builtin "object.__setattr__") ⟨[.ref x, .str name tk, v], []⟩) R s := by
  obtain ⟨pre, post, e1, e2, n1, n2⟩ := (U s.heap.objs.size).split
  have hx : s.heap.get? x = some (excObj C tu none) := (N (x, excObj C tu none) (by rw [e1]; simp)).1
  refine osaE_open X (ox := excObj C tu none) (od := none) ⟨hx, rfl, rfl, trivial⟩ hp ht fun b => ?_
  obtain ⟨cd, hc, hd'⟩ := any_some hh
  have N1 := N.push F (dictOf [] 0)
  have F1 : Fr h₀ L (s.heap.push (dictOf [] 0)) m := F.push _
  rw [e1] at N1
  have hxs : ∀ p ∈ news, p.1 ≠ s.heap.objs.size := fun p hp => Nat.ne_of_lt (Heap.lt_size (N p hp).1)
  have hx1 : (s.heap.push (dictOf [] 0)).get? x = some (excObj C tu none) := Heap.get?_push_of_some _ hx
  obtain ⟨F2, N2⟩ := news_upd (pre := (s.heap.objs.size, dictOf [] 0) :: pre) (f := fun o => { o with dict := some s.heap.objs.size }) F1 N1 (fun p hp => by
    rcases List.mem_cons.mp hp with rfl | hp
    · exact (hxs (x, excObj C tu none) (by rw [e1]; simp)).symm
    · exact n1 p hp) n2 (o' := excObj C tu (some s.heap.objs.size)) rfl rfl
  obtain ⟨F3, N3⟩ := news_upd (d := s.heap.objs.size) (pre := []) (f := Obj.putName name (PyData.keyHash w.params name) (.str name s.toks) v) F2 N2 (fun _ hp => nomatch hp) (fun p hp => by
    have hp' : p ∈ pre ++ (x, excObj C tu (some s.heap.objs.size)) :: post := hp
    rw [← e2] at hp'
    intro q
    have : ∀ p ∈ news' s.heap.objs.size, p.1 ≠ s.heap.objs.size := fun p hp => by
      rw [e2] at hp
      rcases List.mem_append.mp hp with hp | hp
      · exact hxs p (by rw [e1]; exact List.mem_append_left _ hp)
      · rcases List.mem_cons.mp hp with rfl | hp
        · exact hxs (x, excObj C tu none) (by rw [e1]; simp)
        · exact hxs p (by rw [e1]; exact List.mem_append_right _ (.tail _ hp))
    exact this p hp' q) (o' := dictOf [⟨PyData.keyHash w.params name, .str name s.toks, v⟩] 1) (by rw [putName_dict]; rfl) rfl
  unfold storeInOwnDict
  refine wpAny_bind (wpAny_pure ?_)
  rw [if_neg (show ¬ ((Value.ref C == Value.type "module") = true) by simp)]
  unfold ownDictForStores instanceDict
  refine wpAny_bind ?_
  dsimp only
  refine wpAny_bind (wpAny_loadPart hx ?_)
  try dsimp only
  refine wpAny_bind ((looks_clsIn X hc).here ?_)
  rw [hd', if_neg (by decide)]
  try dsimp only
  rw [if_neg (show ¬ ((!true || !typeHasDict (Value.ref C)) = true) from by simp [typeHasDict])]
  refine wpAny_bind (wpAny_alloc' ?_)
  refine wpAny_bind (wpAny_update' hx1 ?_)
  refine wpAny_pure ?_
  show wpAny _ _ (storeInDict s.heap.objs.size (.str name tk) name v) _ _ _
  unfold storeInDict newKeyGuard
  refine wpAny_bind (wpAny_pure (wpAny_bind ?_))
  unfold nsSet
  have D := (N2 (s.heap.objs.size, dictOf [] 0) (by simp)).1
  have D' := (N3 (s.heap.objs.size, dictOf [⟨PyData.keyHash w.params name, .str name s.toks, v⟩] 1) (by simp)).1
  refine wpAny_bind (wpAny_bind (wpAny_askSetting (wpAny_pure (wpAny_bind (wpAny_mkText (wpAny_bind (wpAny_loadPart D ?_)))))))
  try dsimp only [dictOf]
  rw [aRefKeyMayBeTheName_at]
  rw [if_neg (by simp)]
  refine wpAny_updatePart D ?_
  refine wpAny_bind (wpAny_lookBehind D' (pastItsLine_dict (by rw [List.size_toArray, sizeLine_eq]; simp)) ?_)
  refine wpAny_pure (h _ _ F3 (fun p hp => N3 p ?_) (fun p hp => Heap.lt_size (N p hp).1))
  rw [e2] at hp
  exact hp
theorem osaE_next {ox : Obj} {dx : Addr} {name : Str} {tk : Tok} {v : Value} {es : List DictEntry} {n : Nat} {news' : List (Addr × Obj)} (F : Fr h₀ L s.heap m) (N : News h₀ L s.heap news) (X : K.In s.heap)
    (I : InstAt s.heap x ox C (some (dictOf es n))) (hd : ox.dict = some dx) (hp : excOver K C = true) (ht : takerIn K C name = some none) (hh : (clsIn K C).any (·.hasDict) = true)
    (hl : (getL name es).isSome = true) (U : Upd dx (dictOf es n) (dictOf (putL name (PyData.keyHash w.params name) (.str name s.toks) v es) (putN name es n)) news news') (hz : (putL name (PyData.keyHash w.params name) (.str name s.toks) v es).length ≤ 1000)
    (h : ∀ h', Fr h₀ L h' m → News h₀ L h' news' → R (.ok (.ret .none)) { s with heap := h', toks := s.toks + 1 }) :
    codeAny (model prog w) A (.call (.builtin "object.__setattr__") ⟨[.ref x, .str name tk, v], []⟩) R s := by
  obtain ⟨pre, post, e1, e2, n1, n2⟩ := U.split
  rw [e1] at N
  refine osaE_open X I hp ht fun b => ?_
  obtain ⟨cd, hc, hd'⟩ := any_some hh
  obtain ⟨U1, U2⟩ := news_upd (f := Obj.putName name (PyData.keyHash w.params name) (.str name s.toks) v) F N n1 n2 (putName_dict _ _ _ _ _ _) rfl
  have D := (N (dx, dictOf es n) (by simp)).1
  have D' := (U2 (dx, dictOf (putL name (PyData.keyHash w.params name) (.str name s.toks) v es) (putN name es n)) (by simp)).1
  obtain ⟨hx, hcl, hn, -⟩ := I
  obtain ⟨oc, odi, oda, osl⟩ := ox
  dsimp only at hcl hd
  subst hcl hd
  refine wpAny_bind (wpAny_pure (wpAny_bind (wpAny_bind (wpAny_loadPart hx (wpAny_bind ((looks_clsIn X hc).here ?_))))))
  rw [hd']
  refine wpAny_pure (a := some dx) (wpAny_bind (wpAny_pure (wpAny_bind ?_)))
  unfold nsSet
  refine wpAny_bind (wpAny_bind (wpAny_askSetting (wpAny_pure (wpAny_bind (wpAny_mkText (wpAny_bind (wpAny_loadPart D ?_)))))))
  have c : (!es.toArray.any (·.key.isStr name) && es.toArray.any (·.refKey)) = false := by
    unfold getL at hl
    rw [← Array.any_toList, ← Array.any_toList]
    split at hl
    · rename_i en he
      rw [List.any_eq_true.mpr ⟨en, List.mem_of_find?_eq_some he, List.find?_some he⟩]; rfl
    · split at hl
      · cases hl
      · rename_i z; rw [Bool.not_eq_true] at z; rw [show es.toArray.toList = es from rfl, z, Bool.and_false]
  dsimp only [dictOf]
  rw [aRefKeyMayBeTheName_at, c, if_neg (by decide)]
  refine wpAny_updatePart D ?_
  refine wpAny_bind (wpAny_lookBehind D' (pastItsLine_dict (by rw [List.size_toArray, sizeLine_eq]; omega)) ?_)
  exact wpAny_pure (h _ U1 (by rw [e2]; exact U2))
end
section
variable {prog : Program} {w : World} {A : Around} {K : Frag} {C x : Addr} {s : Shared} {h₀ : Heap} {L : Addr} {m : Str → Option Value} {news : List (Addr × Obj)} {E : Value → Shared → Prop} {name : Str} {v : Value} {Q : Unit → Shared → Prop}
theorem setE_first {tu : Addr} {news' : Addr → List (Addr × Obj)} (F : Fr h₀ L s.heap m) (X₀ : K.In h₀) (N : News h₀ L s.heap news)
    (hs : findIn K (.ref C) "__setattr__" = some (some (.builtin "object.__setattr__"))) (hp : excOver K C = true) (ht : takerIn K C name = some none) (hh : hasDictIn K C = true)
    (hm : (x, excObj C tu none) ∈ news) (U : ∀ d, Upd x (excObj C tu none) (excObj C tu (some d)) news (news' d))
    (h : ∀ d h', Fr h₀ L h' m → News h₀ L h' ((d, dictOf [⟨PyData.keyHash w.params name, .str name (s.toks + 1), v⟩] 1) :: news' d) → (∀ p ∈ news, p.1 < d) → Q () { s with heap := h', toks := s.toks + 2 }) :
    wpAny (model prog w) A (setAttr (.ref x) name v) Q E s :=
  set_plain (X₀.keeps F.keep) (ox := excObj C tu none) (od := none) ⟨(N _ hm).1, rfl, rfl, trivial⟩ hs
    (osaE_first (s := { s with toks := s.toks + 1 }) F N (X₀.keeps F.keep) U hp ht hh fun d h' F' N' l => h d h' F' N' l)
theorem setE_next {tu dx : Addr} {es : List DictEntry} {n : Nat} {es' : List DictEntry} {n' : Nat} {news' : List (Addr × Obj)} (F : Fr h₀ L s.heap m) (X₀ : K.In h₀) (N : News h₀ L s.heap news)
    (hs : findIn K (.ref C) "__setattr__" = some (some (.builtin "object.__setattr__"))) (hp : excOver K C = true) (ht : takerIn K C name = some none) (hh : hasDictIn K C = true)
    (hm : (x, excObj C tu (some dx)) ∈ news) (hm2 : (dx, dictOf es n) ∈ news) (hl : (getL name es).isSome = true)
    (e : (putL name (PyData.keyHash w.params name) (.str name (s.toks + 1)) v es, putN name es n) = (es', n')) (U : Upd dx (dictOf es n) (dictOf es' n') news news') (hz : es'.length ≤ 1000)
    (h : ∀ h', Fr h₀ L h' m → News h₀ L h' news' → Q () { s with heap := h', toks := s.toks + 2 }) :
    wpAny (model prog w) A (setAttr (.ref x) name v) Q E s := by
  obtain ⟨rfl, rfl⟩ := Prod.mk.inj e
  exact set_plain (X₀.keeps F.keep) (ox := excObj C tu (some dx)) (od := some (dictOf es n)) ⟨(N _ hm).1, rfl, rfl, (N _ hm2).1⟩ hs
    (osaE_next (s := { s with toks := s.toks + 1 }) F N (X₀.keeps F.keep) ⟨(N _ hm).1, rfl, rfl, (N _ hm2).1⟩ rfl hp ht hh hl U hz fun h' F' N' => h h' F' N')
end

end
section
section
variable {prog : Program} {w : World} {A : Around} {K : Frag} {C L : Addr} {s : Shared} {h₀ : Heap} {m : Str → Option Value} {news : List (Addr × Obj)} {E : Value → Shared → Prop}
theorem call_exc {pos : List Value} {fI : Addr} {Q : Value → Shared → Prop} (F : Fr h₀ L s.heap m) (X₀ : K.In h₀) (N : News h₀ L s.heap news) (c : excK K C = true)
    (hi : findIn K (.ref C) "__init__" = some (some (.ref fI))) (hf : isFn K (.ref fI) = true) (hz : pos.length ≤ sizeLine)
    (h : ∀ e tu h', Fr h₀ L h' m → News h₀ L h' ((e, excObj C tu none) :: (tu, ({ cls := .type "tuple", data := .seq pos.toArray } : Obj)) :: news) → (∀ p ∈ news, p.1 < tu) → tu < e →
      codeAny (model prog w) (A.under (.builtin "type.__call__" ⟨.ref C :: pos, []⟩)) (.call (.ref fI) ⟨.ref e :: pos, []⟩) (InitBack e fun r s' => match r with | .ok (.ret v) => Q v s' | .ok _ => False | .error e => E e s') { s with heap := h' }) :
    wpAny (model prog w) A (call (.ref C) pos) Q E s := by
  obtain ⟨hh, g, d, t, os⟩ := s
  have X := X₀.keeps F.keep
  have N2 := (N.push F { cls := .type "tuple", data := .seq pos.toArray }).push (F.push _) (excObj C hh.objs.size none)
  rw [Heap.size_push] at N2
  refine exc_call X (excK_of X c) hi (beq_iff_eq.mp hf) ?_ hz
  refine wpAny_call (codeAny_mono (h (hh.objs.size + 1) hh.objs.size _ ((F.push _).push _) N2 (fun p hp => Heap.lt_size (N p hp).1) (Nat.lt_succ_self _)) fun r s' z => ?_)
  rcases r with e | (v | _ | _ | _) <;> exact z
end
section
variable {M : Model} {A : Around} {E : Value → Shared → Prop} {s : Shared} {env : Env}
theorem raiseStmt_exc {x : Sem Value} {Q : Flow → Shared → Prop} (hh : A.handled = none)
    (h : wpAny M A x (fun v s₁ => ∃ e C tu dd, v = .ref e ∧ ExcCl C s₁.heap ∧ s₁.heap.get? e = some (excObj C tu dd) ∧ E (.ref e) s₁) E s) :
    wpAny M A (raiseStmt env (some x) none) Q E s := by
  unfold raiseStmt
  refine wpAny_bind (wpAny_mono h (fun v s₁ h₁ => ?_) fun _ _ x => x)
  obtain ⟨e, C, tu, dd', rfl, c, he, hE⟩ := h₁
  obtain ⟨bm, nm, q, N, bs, hdct, sn, sub, ab, col, dd, k0, k1, k2, k3, k5, hC, c1, c2, c3, c4⟩ := c.obj
  have hcB : (Value.ref C :: bm).contains (.type "BaseException") = true := by rw [List.contains_cons, c2, Bool.or_true]
  obtain ⟨hp, g, d, tk, os⟩ := s₁
  repeat (first | with_reducible refine wpAny_loadPart_at he ?_ | with_reducible refine wpAny_loadPart_at hC ?_ | (with_reducible refine wpAny_isSubtype_exc hC ?_; rw [hcB]) | wp_step)
  exact wpAny_raiseNew_none hh hE
/-- an exception that the call made is thrown -/
def ThrownK (E : Value → Shared → Prop) (v : Value) (s₁ : Shared) : Prop := ∃ e C tu dd, v = .ref e ∧ ExcCl C s₁.heap ∧ s₁.heap.get? e = some (excObj C tu dd) ∧ E (.ref e) s₁
theorem thrownK_ {E : Value → Shared → Prop} {s₁ : Shared} {K : Frag} {h₀ : Heap} {L : Addr} {m : Str → Option Value} {news : List (Addr × Obj)} {e C tu : Addr} {dd : Option Addr} (F : Fr h₀ L s₁.heap m) (X : K.In h₀) (N : News h₀ L s₁.heap news) (hm : (e, excObj C tu dd) ∈ news) (c : excK K C = true) (h : E (.ref e) s₁) : ThrownK E (.ref e) s₁ :=
  ⟨e, C, tu, dd, rfl, excK_of (X.keeps F.keep) c, (N _ hm).1, h⟩
theorem exec_raise {ex : Expr} {pos : Pos} {Q : Flow → Shared → Prop} (hh : A.handled = none)
    (h : wpAny M A (eval ex env) (ThrownK E) E s) :
    wpAny M A (exec (.Raise (some ex) none pos) env) Q E s := by
  rw [arm_exec_Raise]
  have h' : wpAny M A (do let v ← eval ex env; standAt pos; pure v) (fun v s₁ => ∃ e C tu dd, v = .ref e ∧ ExcCl C s₁.heap ∧ s₁.heap.get? e = some (excObj C tu dd) ∧ E (.ref e) s₁) E s :=
    wpAny_bind (wpAny_mono h (fun v s₃ h₃ => wpAny_bind (wpAny_standAt (wpAny_pure h₃))) fun _ _ x => x)
  refine wpAny_bind (wpAny_standAt ?_)
  simp only [evalOpt, Option.map]
  exact raiseStmt_exc hh h'
end

end
section
section
variable {M : Model} {A : Around} {E : Value → Shared → Prop} {s' : Shared} {base g : Heap} {outer : List Env} {L a e C tu : Addr} {dd : Option Addr} {m : Str → Option Value} {name : Str} {scope : Scope} {cd : Value} {Q : Unit → Shared → Prop} {news : List (Addr × Obj)}
theorem leave_exc (K : Below A base outer g) (F : Fr g L s'.heap m) (N : News g L s'.heap ((e, excObj C tu dd) :: news)) (hne : ∀ p ∈ news, p.1 ≠ e)
    (hQ : ∀ h', RaisedSN base g outer e (.ref C) news h' → g.UpToSlots h' → Q () { s' with heap := h' }) (hk : scope.kind = .function := by rfl) :
    wpAny M (A.deeper (envOf name scope L a cd)) (leaving (envOf name scope L a cd) (.ref e)) Q E s' := by
  have K' := K.push (name := name) (a := a) (cd := cd) F hk
  have he := N (e, excObj C tu dd) (.head _)
  have hin : ∀ env ∈ (envOf name scope L a cd :: outer), ∀ b, env.frame = some b → b ∈ e :: (envOf name scope L a cd :: outer).filterMap (·.frame) := fun env he b hb => .tail _ (List.mem_filterMap.mpr ⟨env, he, hb⟩)
  have st : base.StaysIn (hideAll s'.heap (e :: (envOf name scope L a cd :: outer).filterMap (·.frame))) := fun b o q => hideAll_get _ (K'.stays b o q) fun hm => by
    rcases List.mem_cons.mp hm with rfl | hm
    · have := K.stays _ _ q; rw [he.2.2] at this; cases this
    · rw [(K'.frames.mem hm).1] at q; cases q
  have sg : ∀ b o, g.get? b = some o → b ∉ outer.filterMap (·.frame) → (hideAll s'.heap (e :: (envOf name scope L a cd :: outer).filterMap (·.frame))).get? b = some o := fun b o q nm => hideAll_get _ (F.keep b o q) fun hm => by
    rcases List.mem_cons.mp hm with rfl | hm
    · rw [he.2.2] at q; cases q
    · rcases kts_mem hm with z | z
      · rw [z, kts_self F] at q
        cases q
      · exact nm z
  have hl : ∀ q ∈ news, (hideAll s'.heap (e :: (envOf name scope L a cd :: outer).filterMap (·.frame))).get? q.1 = some q.2 ∧ g.get? q.1 = none ∧ base.get? q.1 = none := fun q hq => by
    have Nq := N q (.tail _ hq)
    refine ⟨hideAll_get _ Nq.1 fun hm => ?_, Nq.2.2, fresh_of_stays K.stays Nq.2.2⟩
    rcases List.mem_cons.mp hm with z | hm
    · exact hne q hq z
    · obtain ⟨env, hen, hf⟩ := List.mem_filterMap.mp hm
      rcases List.mem_cons.mp hen with rfl | hen
      · exact Nq.2.1 (Option.some.inj hf).symm
      · obtain ⟨o, ho, _⟩ := (K.frames.mem (List.mem_filterMap.mpr ⟨env, hen, hf⟩)).2
        rw [Nq.2.2] at ho; cases ho
  have hen : (hideAll s'.heap (e :: (envOf name scope L a cd :: outer).filterMap (·.frame))).get? e = none := hideAll_none _ (.head _)
  refine wpAny_leaving_firstW (a0 := .ref tu) K'.stack (funFrames_hide K'.frames hin) rfl he.1 (fun b o hb => of_hideAll _ hb) hen rfl rfl rfl fun h' hL => ?_
  obtain ⟨k1, ⟨_, _, k2⟩, k3, k4⟩ := hL
  exact hQ h' ⟨_, .ref tu, st, sg, hl, k1, hen, k2, k3⟩ ((Heap.UpToSlots.of_keeps F.keep).trans k4)
end

end
section
/-- what an exception's traceback leaves alone: its own dict and its context -/
def fld2 (o : Obj) : Option Value := match o.data with
  | .fields vs => vs[2]?
  | _ => none
def keyOf (o : Obj) : Option Addr × Option Value := (o.dict, fld2 o)
/-- a tree whose writes leave every object's own dict alone -/
def KeepD {α : Type} : Sem α → Prop
  | .pure _ => True
  | .raise _ => True
  | .unsupported _ => True
  | .finish _ => True
  | .rule _ k => KeepD (k ())
  | .at _ k => KeepD (k ())
  | .load _ _ k => ∀ o, KeepD (k o)
  | .update _ _ f k => (∀ o : Obj, keyOf (f o) = keyOf o) ∧ KeepD (k ())
  | .alloc _ k => ∀ a, KeepD (k a)
  | .loadIfAlive _ k => ∀ o, KeepD (k o)
  | .point _ k => KeepD (k ())
  | .fresh k => ∀ t, KeepD (k t)
  | .ask k => ∀ t, KeepD (k t)
  | .handled _ k => ∀ t, KeepD (k t)
  | .stack k => ∀ t, KeepD (k t)
  | _ => False
def DKeep (h h' : Heap) : Prop := ∀ (a : Addr) (o : Obj), h.objs[a]? = some o → ∃ o', h'.objs[a]? = some o' ∧ keyOf o' = keyOf o
theorem DKeep.refl (h : Heap) : DKeep h h := fun _ o e => ⟨o, e, rfl⟩
theorem DKeep.trans {a b c : Heap} (x : DKeep a b) (y : DKeep b c) : DKeep a c := fun i o e => by
  obtain ⟨o', e', d'⟩ := x i o e
  obtain ⟨o2, e2, d2⟩ := y i o' e'
  exact ⟨o2, e2, d2.trans d'⟩
theorem DKeep.push (h : Heap) (o : Obj) : DKeep h (h.push o) := fun a x e => by
  refine ⟨x, ?_, rfl⟩
  obtain ⟨objs, l⟩ := h
  show (objs.push o)[a]? = some x
  have e' : objs[a]? = some x := e
  have hlt : a < objs.size := by
    rw [Array.getElem?_eq_some_iff] at e'
    exact e'.1
  rw [Array.getElem?_push_lt hlt]
  rw [Array.getElem?_eq_some_iff] at e'
  rw [e'.2]
theorem DKeep.update (h : Heap) (b : Addr) (f : Obj → Obj) (hf : ∀ o : Obj, keyOf (f o) = keyOf o) : DKeep h (h.update b f) := fun a x e => by
  obtain ⟨objs, l⟩ := h
  have e' : objs[a]? = some x := e
  by_cases q : b = a
  · subst q
    refine ⟨f x, ?_, hf x⟩
    show (objs.modify b f)[b]? = some (f x)
    rw [Array.getElem?_modify, if_pos rfl, e']
    rfl
  · refine ⟨x, ?_, rfl⟩
    show (objs.modify b f)[a]? = some x
    rw [Array.getElem?_modify, if_neg q, e']
theorem keepD_wp {α : Type} {M : Model} {Γ : Ctx} {h₀ : Heap} {Q : α → Pos → Shared → Prop} {E : Value → Pos → Shared → Prop} : ∀ (t : Sem α), KeepD t → ∀ (p : Pos) (s : Shared), DKeep h₀ s.heap → Sem.wp M Γ t Q E p s →
    Sem.wp M Γ t (fun a p' s' => Q a p' s' ∧ DKeep h₀ s'.heap) (fun e p' s' => E e p' s' ∧ DKeep h₀ s'.heap) p s := by
  intro t
  induction t with
  | pure a => intro _ p s d h; exact ⟨h, d⟩
  | raise e => intro _ p s d h; exact ⟨h, d⟩
  | unsupported w => intro _ p s d h; exact h
  | finish w => intro _ p s d h; exact h
  | rule t k ih => intro hk p s d h; exact ih () hk p s d h
  | «at» q k ih => intro hk p s d h; exact ih () hk q s d h
  | load a q k ih =>
    intro hk p s d h
    rw [Sem.wp_load] at h ⊢
    obtain ⟨o, ho, h⟩ := h
    exact ⟨o, ho, ih o (hk o) p s d h⟩
  | update a q f k ih =>
    intro hk p s d h
    rw [Sem.wp_update] at h ⊢
    exact ⟨h.1, ih () hk.2 p _ (d.trans (DKeep.update _ _ _ hk.1)) h.2⟩
  | alloc o k ih =>
    intro hk p s d h
    rw [Sem.wp_alloc] at h ⊢
    exact ih _ (hk _) p _ (d.trans (DKeep.push _ _)) h
  | loadIfAlive a k ih =>
    intro hk p s d h
    rw [Sem.wp_loadIfAlive] at h ⊢
    exact ih _ (hk _) p s d h
  | point l k ih =>
    intro hk p s d h
    rw [Sem.wp_point] at h ⊢
    exact ih () hk p s d h
  | fresh k ih =>
    intro hk p s d h
    rw [Sem.wp_fresh] at h ⊢
    exact ih _ (hk _) p _ d h
  | ask k ih =>
    intro hk p s d h
    rw [Sem.wp_ask] at h ⊢
    exact ih _ (hk _) p s d h
  | handled o k ih =>
    intro hk p s d h
    rw [Sem.wp_handled] at h ⊢
    exact ih _ (hk _) p s d h
  | stack k ih =>
    intro hk p s d h
    rw [Sem.wp] at h ⊢
    exact ih _ (hk _) p s d h
  | register => intro hk; exact hk.elim
  | choose => intro hk; exact hk.elim
  | os => intro hk; exact hk.elim
  | call => intro hk; exact hk.elim
  | newGen => intro hk; exact hk.elim
  | genState => intro hk; exact hk.elim
  | resume => intro hk; exact hk.elim
  | yield => intro hk; exact hk.elim
  | fork => intro hk; exact hk.elim
  | thread => intro hk; exact hk.elim
  | await => intro hk; exact hk.elim
theorem keepD_any {α : Type} {M : Model} {A : Around} {t : Sem α} {Q : α → Shared → Prop} {E : Value → Shared → Prop} {s : Shared} (hk : KeepD t) (h : wpAny M A t Q E s) :
    wpAny M A t (fun a s' => Q a s' ∧ DKeep s.heap s'.heap) (fun e s' => E e s' ∧ DKeep s.heap s'.heap) s := fun Γ p hΓ => keepD_wp t hk p s (DKeep.refl _) (h Γ p hΓ)
theorem DKeep.at {h h' : Heap} (d : DKeep h h') {e : Addr} {o o' : Obj} (x : h.get? e = some o) (y : h'.get? e = some o') : keyOf o' = keyOf o := by
  obtain ⟨o2, e2, d2⟩ := d e o (Heap.get?_some_iff.mp x).1
  rw [(Heap.get?_some_iff.mp y).1] at e2
  cases e2
  exact d2
theorem keepD_bind {α β : Type} : ∀ {t : Sem α} {f : α → Sem β}, KeepD t → (∀ a, KeepD (f a)) → KeepD (t.bind f) := by
  intro t
  induction t with
  | pure a => intro f _ hf; exact hf a
  | raise e => intro f _ hf; trivial
  | unsupported w => intro f _ hf; trivial
  | finish w => intro f _ hf; trivial
  | rule t k ih => intro f hk hf; exact ih () hk hf
  | «at» q k ih => intro f hk hf; exact ih () hk hf
  | load a q k ih => intro f hk hf o; exact ih o (hk o) hf
  | update a q g k ih => intro f hk hf; exact ⟨hk.1, ih () hk.2 hf⟩
  | alloc o k ih => intro f hk hf a; exact ih a (hk a) hf
  | loadIfAlive a k ih => intro f hk hf o; exact ih o (hk o) hf
  | point l k ih => intro f hk hf; exact ih () hk hf
  | fresh k ih => intro f hk hf o; exact ih o (hk o) hf
  | ask k ih => intro f hk hf o; exact ih o (hk o) hf
  | handled _ k ih => intro f hk hf o; exact ih o (hk o) hf
  | stack k ih => intro f hk hf o; exact ih o (hk o) hf
  | register => intro f hk; exact hk.elim
  | choose => intro f hk; exact hk.elim
  | os => intro f hk; exact hk.elim
  | call => intro f hk; exact hk.elim
  | newGen => intro f hk; exact hk.elim
  | genState => intro f hk; exact hk.elim
  | resume => intro f hk; exact hk.elim
  | yield => intro f hk; exact hk.elim
  | fork => intro f hk; exact hk.elim
  | thread => intro f hk; exact hk.elim
  | await => intro f hk; exact hk.elim

end
section
theorem kd_pure {α : Type} (a : α) : KeepD (pure a : Sem α) := trivial
theorem kd_bind {α β : Type} {t : Sem α} {f : α → Sem β} (h : KeepD t) (h2 : ∀ a, KeepD (f a)) : KeepD (t >>= f) := keepD_bind h h2
theorem kd_unsupported {α : Type} (w : String) : KeepD (unsupported w : Sem α) := trivial
theorem kd_throw {α : Type} (e : Value) : KeepD (throw e : Sem α) := trivial
theorem kd_load (a : Addr) : KeepD (load a) := fun _ => trivial
theorem kd_loadPart (a : Addr) (p : Option Value) : KeepD (loadPart a p) := fun _ => trivial
theorem kd_update (a : Addr) (f : Obj → Obj) (h : ∀ o : Obj, keyOf (f o) = keyOf o) : KeepD (update a f) := ⟨h, trivial⟩
theorem kd_alloc (o : Obj) : KeepD (alloc o) := fun _ => trivial
theorem kd_stack : KeepD stack := fun _ => trivial
theorem kd_fieldsOf (v : Value) : KeepD (fieldsOf v) := by
  unfold fieldsOf
  cases v <;> first | exact kd_unsupported _ | (refine kd_bind (kd_load _) fun o => ?_; split <;> first | exact kd_pure _ | exact kd_unsupported _)
theorem kd_field (v : Value) (i : Nat) : KeepD (field v i) := by
  unfold field
  refine kd_bind (kd_fieldsOf _) fun o => ?_
  split <;> first | exact kd_pure _ | exact kd_unsupported _
theorem mapFields_key (i : Nat) (v : Value) (hi : i ≠ 2) (o : Obj) : keyOf (Obj.mapFields (·.setIfInBounds i v) o) = keyOf o := by
  obtain ⟨c, d, dt, sl⟩ := o
  cases dt <;> first | rfl | (unfold keyOf fld2; simp only [Obj.mapFields]; rw [Array.getElem?_setIfInBounds_ne hi])
theorem kd_updateField (a : Addr) (i : Nat) (v : Value) (hi : i ≠ 2) : KeepD (updateField a i v) := by
  unfold updateField
  refine kd_bind (kd_load _) fun o => ?_
  split
  · split
    · exact kd_update _ _ (mapFields_key _ _ hi)
    · exact kd_unsupported _
  · exact kd_unsupported _
theorem kd_setField (v : Value) (i : Nat) (x : Value) (hi : i ≠ 2) : KeepD (setField v i x) := by
  unfold setField
  cases v <;> first | exact kd_updateField _ _ _ hi | exact kd_unsupported _
theorem kd_setFlight (e : Value) (f : Option Addr) : KeepD (setFlight e f) := by
  unfold setFlight
  refine kd_bind (kd_field _ _) fun t => ?_
  split
  · exact kd_setField _ _ _ (by decide)
  · exact kd_pure _
theorem kd_frameEnvs : KeepD frameEnvs := kd_bind kd_stack fun _ => kd_pure _
theorem kd_behind (env : Env) (outer : List Env) : KeepD (behindIsImport env outer) := by
  unfold behindIsImport
  split
  · exact kd_pure _
  · split
    · exact kd_pure _
    · exact kd_bind (kd_field _ _) fun _ => kd_pure _
theorem kd_kept (env : Env) (b : Bool) (l : List Env) : KeepD (keptBack env b l) := by
  cases l with
  | nil =>
    unfold keptBack
    split
    · split
      · exact kd_pure _
      · refine kd_bind ?_ fun _ => kd_pure _
        exact kd_bind kd_stack fun _ => kd_pure _
    · exact kd_pure _
  | cons c r => exact kd_pure _
theorem kd_ready : ∀ l : List Env, KeepD (readyFrames l)
  | [] => kd_pure _
  | env :: outer => by
    unfold readyFrames
    split
    · refine kd_bind (kd_load _) fun o => ?_
      split
      · exact kd_pure _
      · refine kd_bind (kd_behind _ _) fun i => kd_bind (kd_kept _ _ _) fun b => kd_bind (kd_update _ _ fun _ => rfl) fun _ => kd_ready outer
    · exact kd_unsupported _
theorem kd_frameObject (l : List Env) : KeepD (frameObject l) := by
  cases l with
  | nil => exact kd_pure _
  | cons env outer => exact kd_bind (kd_ready _) fun _ => kd_pure _
theorem kd_frameOf (env : Env) : KeepD (PySem.frameOf env) := by
  unfold PySem.frameOf
  refine kd_bind kd_frameEnvs fun l => kd_bind (kd_frameObject _) fun o => ?_
  split
  · exact kd_pure _
  · exact kd_unsupported _
theorem kd_place (f : Addr) (b : Bool) : KeepD (entryPlaceOf f b) := by
  unfold entryPlaceOf
  refine kd_bind kd_stack fun l => ?_
  split <;> exact kd_pure _
theorem kd_asIs (T : String) (d : Data) : KeepD (newObjAsIs (.type T) d) := kd_bind (kd_alloc _) fun _ => kd_pure _
theorem kd_newEntry (a b c d e : Value) (l : List Value) : KeepD (EntryCells.newEntry a b c d e l) := by
  unfold EntryCells.newEntry newFields newObj
  dsimp only
  split
  · split
    · exact kd_bind (kd_unsupported _) fun _ => kd_asIs _ _
    · exact kd_asIs _ _
  · split
    · exact kd_bind (kd_unsupported _) fun _ => kd_asIs _ _
    · exact kd_asIs _ _
theorem kd_note (e : Value) (env : Env) : KeepD (noteFrame e env) := by
  unfold noteFrame
  split
  · refine kd_bind (kd_field _ _) fun h => ?_
    have tail : KeepD (do setField e 1 (← EntryCells.newEntry h (← PySem.frameOf env) .none (rawInt ‹Addr›) .none (← entryPlaceOf ‹Addr› (h != .none)))) :=
      kd_bind (kd_frameOf _) fun _ => kd_bind (kd_place _ _) fun _ => kd_bind (kd_newEntry _ _ _ _ _ _) fun _ => kd_setField _ _ _ (by decide)
    split
    · refine kd_bind (kd_field _ _) fun x => ?_
      split
      · exact kd_pure _
      · exact kd_bind (kd_setField _ _ _ (by decide)) fun _ => tail
    · exact tail
  · exact kd_unsupported _
theorem kd_leaving (env : Env) (e : Value) : KeepD (leaving env e) := kd_bind (kd_note _ _) fun _ => kd_setFlight _ _

end
section
/-- an exception in flight, with its own dict -/
def RaisedX (base G : Heap) (l : List Env) (e C : Addr) (dd : Option Addr) (news : List (Addr × Obj)) (h : Heap) : Prop :=
  RaisedSN base G l e (.ref C) news h ∧ ∃ oe, h.get? e = some oe ∧ keyOf oe = (dd, some .none)
theorem RaisedSN.there {base G : Heap} {l : List Env} {e : Addr} {cls : Value} {news : List (Addr × Obj)} {h : Heap} (R : RaisedSN base G l e cls news h) : ∃ oe, h.get? e = some oe ∧ oe.cls = cls := by
  obtain ⟨B, a0, hB, _, hl, hfl⟩ := R
  exact hfl.there
section
variable {M : Model} {A : Around} {E : Value → Shared → Prop} {s' : Shared} {base g g₂ : Heap} {outer : List Env} {L a e C tu : Addr} {dd : Option Addr} {m : Str → Option Value} {name : Str} {scope : Scope} {cd : Value} {Q : Unit → Shared → Prop} {news : List (Addr × Obj)}
theorem leave_excX (K : Below A base outer g) (F : Fr g L s'.heap m) (N : News g L s'.heap ((e, excObj C tu dd) :: news)) (hne : ∀ p ∈ news, p.1 ≠ e) (hk : scope.kind = .function)
    (hQ : ∀ h', RaisedX base g outer e C dd news h' → g.UpToSlots h' → Q () { s' with heap := h' }) :
    wpAny M (A.deeper (envOf name scope L a cd)) (leaving (envOf name scope L a cd) (.ref e)) Q E s' := by
  have z := keepD_any (E := E) (kd_leaving _ _) (leave_exc (M := M) (name := name) (scope := scope) (a := a) (cd := cd) (E := E) K F N hne (Q := fun _ s₂ => ∃ h', s₂ = { s' with heap := h' } ∧ RaisedSN base g outer e (.ref C) news h' ∧ g.UpToSlots h') (fun h' R U => ⟨h', rfl, R, U⟩) hk)
  refine wpAny_mono z (fun _ s₂ x => ?_) fun _ _ x => x.1
  obtain ⟨⟨h', rfl, R, U⟩, D⟩ := x
  obtain ⟨oe, he, _⟩ := RaisedSN.there R
  exact hQ h' ⟨R, oe, he, D.at (N (e, excObj C tu dd) (.head _)).1 he⟩ U
theorem leave_onX (K : Below A base outer g) (F : Fr g L g₂ m) (R : RaisedX base g₂ (envOf name scope L a cd :: outer) e C dd news s'.heap) (hsm : g₂.UpToSlots s'.heap)
    (hQ : ∀ h', RaisedX base g outer e C dd news h' → g.UpToSlots h' → Q () { s' with heap := h' }) :
    wpAny M (A.deeper (envOf name scope L a cd)) (leaving (envOf name scope L a cd) (.ref e)) Q E s' := by
  have z := keepD_any (E := E) (kd_leaving _ _) (leave_onSN (M := M) (name := name) (scope := scope) (a := a) (cd := cd) (E := E) K F R.1 hsm (Q := fun _ s₂ => ∃ h', s₂ = { s' with heap := h' } ∧ RaisedSN base g outer e (.ref C) news h' ∧ g.UpToSlots h') (fun h' R _ U => ⟨h', rfl, R, U⟩))
  refine wpAny_mono z (fun _ s₂ x => ?_) fun _ _ x => x.1
  obtain ⟨⟨h', rfl, R', U⟩, D⟩ := x
  obtain ⟨oe, he, hd⟩ := R.2
  obtain ⟨oe', he', _⟩ := RaisedSN.there R'
  exact hQ h' ⟨R', oe', he', (D.at he he').trans hd⟩ U
end
theorem ne_more {rest : List (Addr × Obj)} {d x : Addr} (_ : ∀ p ∈ rest, p.1 ≠ d) (l : ∀ p ∈ rest, p.1 < x) : ∀ p ∈ rest, p.1 ≠ x := fun p hp => Nat.ne_of_lt (l p hp)
theorem news_pick {h₀ h : Heap} {L : Addr} {all rest : List (Addr × Obj)} {q : Addr × Obj} (N : News h₀ L h all) (h1 : q ∈ all) (h2 : ∀ p ∈ rest, p ∈ all) : News h₀ L h (q :: rest) := fun p hp => by
  rcases List.mem_cons.mp hp with rfl | hp
  · exact N _ h1
  · exact N _ (h2 p hp)

end
theorem laid0 : True := by
  k_with "k_room" => ktr_room
  k_with "call builtin:len" => (k_here; (with_reducible show wpAny _ _ (call (Value.builtin "len") [Value.str _ _]) _ _ _); refine r_len (by assumption) ?_)
  k_with "subscriptTail" => (k_here; (with_reducible show wpAny _ _ (subscriptTail _ _ (Value.str _ _) (Value.int _ _)) _ _ _); refine r_item (by assumption) (by first | omega | exact Inv.nn (by assumption)) (by first | omega | (simp only [decide_eq_true_eq] at *; omega)) ?_)
  k_with "compareOp In str str" => (k_here; (with_reducible show wpAny _ _ (compareOp CmpOp.In (Value.str (one _) _) (Value.str _ _)) _ _ _); first | refine r_inB ?_ | refine r_inD ?_ | refine r_in ?_)
  k_with "subscriptTail" => (k_here; (with_reducible show wpAny _ _ (subscriptTail _ (Expr.Slice (some _) (some _) none _) (Value.str _ _) (Value.ref _)) _ _ _); (with_reducible rename Fr _ _ _ _ => F'); (with_reducible rename News _ _ _ _ => N'); (first | (refine r_pk (s := ⟨_, _, _, _, _⟩) F' N' (by assumption) (by omega) ?_) | (refine r_part (s := ⟨_, _, _, _, _⟩) F' N' (by assumption) (by omega) (by first | omega | exact Inv.le (by assumption)) ?_)); intro _ _ _ _ _)
  k_with "compareOp Eq str str" => (k_here; (with_reducible show wpAny _ _ (compareOp CmpOp.Eq (Value.str (pk _ _) _) (Value.str _ _)) _ _ _); first | refine r_eq (pk_comma _ _) ?_ | refine r_eq (pk_dot _ _) ?_ | refine r_eq (pk_none _ _) ?_)
  k_with "compareOp NotEq str str" => (k_here; (with_reducible show wpAny _ _ (compareOp CmpOp.NotEq (Value.str (pk _ _) _) (Value.str _ _)) _ _ _); first | refine r_ne (pk_comma _ _) ?_ | refine r_ne (pk_dot _ _) ?_ | refine r_ne (pk_none _ _) ?_)
  k_with "k_all" => assumption
  k_with "compareOp In str str" => (k_here; (with_reducible show wpAny _ _ (compareOp CmpOp.In (Value.str (pk _ _) _) (Value.str _ _)) _ _ _); refine r_inL (by assumption) ?_)
  k_with "ktr_room" => ((try simp only [depth_under_make, depth_under_kw, depth_in1, depth_deeper, depth_caller]); (try dsimp only [ktrTop]); first | exact roomG (by assumption) (by decide) | exact roomA (by assumption) (by decide) | exact roomZ (by assumption))
  k_with "ktr_units" => ((try simp only [units_in1, units_deeper, Around.mark_units, units_caller]); (try dsimp only [ktrTop]); first | exact roomG (by assumption) (by decide) | exact roomA (by assumption) (by decide) | exact roomZ (by assumption))
  k_with "k_ne" => (refine neN ?_; (try dsimp only); first | exact neLt (by assumption) | exact neGt (by assumption) | exact neGt (And.left (by assumption)) | exact neGt (And.left (And.right (by assumption))) | exact neGt (And.left (And.right (And.right (by assumption)))) | exact neGt (And.left (And.right (And.right (And.right (by assumption))))))
  trivial
section
set_option maxHeartbeats 8000000 in
theorem c_spaces (w : World) (mean : ExcName → Option Value) (mg mb : Str → Option Value) (T : Str) (hT : Short T) (k : Int) (hk : 0 ≤ k) : ScC w mean mg mb 192 3 20 T k (fun r i => r = .none ∧ i = stop isB T k ∧ k ≤ i) := by
  unfold ScC ObC
  k_fill
  intro x d hxd rest ta tb tc td hne dp un gd cn cs a ccd cl outer A₀ base h₀ L m s Q E B F X N TT hck hdp hun hret
  refine wpAny_call ?_
  k_dflt cell_enter
  k_with "exec While BoolOp cons nil" => k_while (fun (_ : List Int) (i : Int) => Inv isB T k i) (fun (_ : List Int) (i : Int) => T.length - i.toNat) "at"
  k_with "state" => first | exact inv_start (by assumption) | exact inv_go kInv (by assumption) (by assumption)
  k_with "measure" => exact inv_m kInv (by assumption)
  k_steps
  all_goals first
    | exact hret _ _ _ _ _ ⟨rfl, inv_no kInv (by assumption) (by assumption), inv_ge (inv_no kInv (by assumption) (by assumption))⟩ (by k_asm) (by k_asm)
    | exact hret _ _ _ _ _ ⟨rfl, inv_end kInv (by omega), inv_ge (inv_end kInv (by omega))⟩ (by k_asm) (by k_asm)

end
theorem laid1 : True := by
  k_with_none
  k_with "k_room" => ktr_room
  k_with "call builtin:len" => (k_here; (with_reducible show wpAny _ _ (call (Value.builtin "len") [Value.str _ _]) _ _ _); refine r_len (by assumption) ?_)
  k_with "subscriptTail" => (k_here; (with_reducible show wpAny _ _ (subscriptTail _ _ (Value.str _ _) (Value.int _ _)) _ _ _); refine r_item (by assumption) (by first | omega | exact Inv.nn (by assumption)) (by first | omega | (simp only [decide_eq_true_eq] at *; omega)) ?_)
  k_with "compareOp In str str" => (k_here; (with_reducible show wpAny _ _ (compareOp CmpOp.In (Value.str (one _) _) (Value.str _ _)) _ _ _); first | refine r_inB ?_ | refine r_inD ?_ | refine r_in ?_)
  k_with "subscriptTail" => (k_here; (with_reducible show wpAny _ _ (subscriptTail _ (Expr.Slice (some _) (some _) none _) (Value.str _ _) (Value.ref _)) _ _ _); (with_reducible rename Fr _ _ _ _ => F'); (with_reducible rename News _ _ _ _ => N'); (first | (refine r_pk (s := ⟨_, _, _, _, _⟩) F' N' (by assumption) (by omega) ?_) | (refine r_part (s := ⟨_, _, _, _, _⟩) F' N' (by assumption) (by omega) (by first | omega | exact Inv.le (by assumption)) ?_)); intro _ _ _ _ _)
  k_with "compareOp Eq str str" => (k_here; (with_reducible show wpAny _ _ (compareOp CmpOp.Eq (Value.str (pk _ _) _) (Value.str _ _)) _ _ _); first | refine r_eq (pk_comma _ _) ?_ | refine r_eq (pk_dot _ _) ?_ | refine r_eq (pk_none _ _) ?_)
  k_with "compareOp NotEq str str" => (k_here; (with_reducible show wpAny _ _ (compareOp CmpOp.NotEq (Value.str (pk _ _) _) (Value.str _ _)) _ _ _); first | refine r_ne (pk_comma _ _) ?_ | refine r_ne (pk_dot _ _) ?_ | refine r_ne (pk_none _ _) ?_)
  k_with "k_all" => assumption
  k_with "compareOp In str str" => (k_here; (with_reducible show wpAny _ _ (compareOp CmpOp.In (Value.str (pk _ _) _) (Value.str _ _)) _ _ _); refine r_inL (by assumption) ?_)
  k_with "ktr_room" => ((try simp only [depth_under_make, depth_under_kw, depth_in1, depth_deeper, depth_caller]); (try dsimp only [ktrTop]); first | exact roomG (by assumption) (by decide) | exact roomA (by assumption) (by decide) | exact roomZ (by assumption))
  k_with "ktr_units" => ((try simp only [units_in1, units_deeper, Around.mark_units, units_caller]); (try dsimp only [ktrTop]); first | exact roomG (by assumption) (by decide) | exact roomA (by assumption) (by decide) | exact roomZ (by assumption))
  k_with "k_ne" => (refine neN ?_; (try dsimp only); first | exact neLt (by assumption) | exact neGt (by assumption) | exact neGt (And.left (by assumption)) | exact neGt (And.left (And.right (by assumption))) | exact neGt (And.left (And.right (And.right (by assumption)))) | exact neGt (And.left (And.right (And.right (And.right (by assumption))))))
  trivial
section
set_option maxHeartbeats 8000000 in
theorem c_digits (w : World) (mean : ExcName → Option Value) (mg mb : Str → Option Value) (T : Str) (hT : Short T) (k : Int) (hk : 0 ≤ k) : ScC w mean mg mb 213 3 20 T k (fun r i => (∃ t, r = .int (i - k) t) ∧ i = stop isD T k ∧ k ≤ i) := by
  unfold ScC ObC
  k_fill
  intro x d hxd rest ta tb tc td hne dp un gd cn cs a ccd cl outer A₀ base h₀ L m s Q E B F X N TT hck hdp hun hret
  refine wpAny_call ?_
  k_dflt cell_enter
  k_with "exec While BoolOp cons nil" => k_while (fun (_ : List Int) (i : Int) => Inv isD T k i) (fun (_ : List Int) (i : Int) => T.length - i.toNat) "at"
  k_with "state" => first | exact inv_start (by assumption) | exact inv_go kInv (by assumption) (by assumption)
  k_with "measure" => exact inv_m kInv (by assumption)
  k_steps
  all_goals first
    | exact hret _ _ _ _ _ ⟨⟨_, rfl⟩, inv_no kInv (by assumption) (by assumption), inv_ge (inv_no kInv (by assumption) (by assumption))⟩ (by k_asm) (by k_asm)
    | exact hret _ _ _ _ _ ⟨⟨_, rfl⟩, inv_end kInv (by omega), inv_ge (inv_end kInv (by omega))⟩ (by k_asm) (by k_asm)

end
theorem laid2 : True := by
  k_with_none
  k_with "k_room" => ktr_room
  k_with "call builtin:len" => (k_here; (with_reducible show wpAny _ _ (call (Value.builtin "len") [Value.str _ _]) _ _ _); refine r_len (by assumption) ?_)
  k_with "subscriptTail" => (k_here; (with_reducible show wpAny _ _ (subscriptTail _ _ (Value.str _ _) (Value.int _ _)) _ _ _); refine r_item (by assumption) (by first | omega | exact Inv.nn (by assumption)) (by first | omega | (simp only [decide_eq_true_eq] at *; omega)) ?_)
  k_with "compareOp In str str" => (k_here; (with_reducible show wpAny _ _ (compareOp CmpOp.In (Value.str (one _) _) (Value.str _ _)) _ _ _); first | refine r_inB ?_ | refine r_inD ?_ | refine r_in ?_)
  k_with "subscriptTail" => (k_here; (with_reducible show wpAny _ _ (subscriptTail _ (Expr.Slice (some _) (some _) none _) (Value.str _ _) (Value.ref _)) _ _ _); (with_reducible rename Fr _ _ _ _ => F'); (with_reducible rename News _ _ _ _ => N'); (first | (refine r_pk (s := ⟨_, _, _, _, _⟩) F' N' (by assumption) (by omega) ?_) | (refine r_part (s := ⟨_, _, _, _, _⟩) F' N' (by assumption) (by omega) (by first | omega | exact Inv.le (by assumption)) ?_)); intro _ _ _ _ _)
  k_with "compareOp Eq str str" => (k_here; (with_reducible show wpAny _ _ (compareOp CmpOp.Eq (Value.str (pk _ _) _) (Value.str _ _)) _ _ _); first | refine r_eq (pk_comma _ _) ?_ | refine r_eq (pk_dot _ _) ?_ | refine r_eq (pk_none _ _) ?_)
  k_with "compareOp NotEq str str" => (k_here; (with_reducible show wpAny _ _ (compareOp CmpOp.NotEq (Value.str (pk _ _) _) (Value.str _ _)) _ _ _); first | refine r_ne (pk_comma _ _) ?_ | refine r_ne (pk_dot _ _) ?_ | refine r_ne (pk_none _ _) ?_)
  k_with "k_all" => assumption
  k_with "compareOp In str str" => (k_here; (with_reducible show wpAny _ _ (compareOp CmpOp.In (Value.str (pk _ _) _) (Value.str _ _)) _ _ _); refine r_inL (by assumption) ?_)
  k_with "ktr_room" => ((try simp only [depth_under_make, depth_under_kw, depth_in1, depth_deeper, depth_caller]); (try dsimp only [ktrTop]); first | exact roomG (by assumption) (by decide) | exact roomA (by assumption) (by decide) | exact roomZ (by assumption))
  k_with "ktr_units" => ((try simp only [units_in1, units_deeper, Around.mark_units, units_caller]); (try dsimp only [ktrTop]); first | exact roomG (by assumption) (by decide) | exact roomA (by assumption) (by decide) | exact roomZ (by assumption))
  k_with "k_ne" => (refine neN ?_; (try dsimp only); first | exact neLt (by assumption) | exact neGt (by assumption) | exact neGt (And.left (by assumption)) | exact neGt (And.left (And.right (by assumption))) | exact neGt (And.left (And.right (And.right (by assumption)))) | exact neGt (And.left (And.right (And.right (And.right (by assumption))))))
  trivial
section
set_option maxHeartbeats 8000000 in
theorem c_nskip (w : World) (mean : ExcName → Option Value) (mg mb : Str → Option Value) (T : Str) (hT : Short T) (k : Int) (hk : 0 ≤ k) (S : Str) (ts : Tok) : ObC 125 w mean mg mb 115 [.str S ts] 6 60 T k (fun r i => (∃ t', r = .str (skipS T k S) t') ∧ i = skipE T k S) := by
  unfold ObC
  k_fill
  intro x d hxd rest ta tb tc td hne dp un gd cn cs a ccd cl outer A₀ base h₀ L m s Q E B F X N TT hck hdp hun hret
  refine wpAny_call ?_
  k_dflt cell_enter
  k_steps
  all_goals first
    | exact hret _ _ _ _ _ (skipped (skip_yes (by assumption) (by assumption))) (by k_asm) (by k_asm)
    | exact hret _ _ _ _ _ (unskipped (skip_no (by assumption))) (by k_asm) (by k_asm)
    | exact hret _ _ _ _ _ (unskipped (skip_end (by assumption))) (by k_asm) (by k_asm)
set_option maxHeartbeats 8000000 in
theorem c_ndigits (w : World) (mean : ExcName → Option Value) (mg mb : Str → Option Value) (T : Str) (hT : Short T) (k : Int) (hk : 0 ≤ k) : ObC 125 w mean mg mb 122 [] 6 60 T k (fun r i => (∃ t', r = .str (part T k i) t') ∧ i = stop isD T k ∧ k ≤ i) := by
  unfold ObC
  k_fill
  intro x d hxd rest ta tb tc td hne dp un gd cn cs a ccd cl outer A₀ base h₀ L m s Q E B F X N TT hck hdp hun hret
  refine wpAny_call ?_
  k_dflt cell_enter
  k_with "exec While Call cons nil" => k_while (fun (_ : List Int) (i : Int) => Inv isD T k i) (fun (_ : List Int) (i : Int) => T.length - i.toNat) "at"
  k_with "state" => first | exact inv_start (by assumption) | exact inv_go kInv (by assumption) (by assumption)
  k_with "measure" => exact inv_m kInv (by assumption)
  k_steps
  all_goals first
    | exact hret _ _ _ _ _ ⟨⟨_, rfl⟩, inv_no kInv (by assumption) (by assumption), inv_ge (inv_no kInv (by assumption) (by assumption))⟩ (by k_asm) (by k_asm)
    | exact hret _ _ _ _ _ ⟨⟨_, rfl⟩, inv_end kInv (by omega), inv_ge (inv_end kInv (by omega))⟩ (by k_asm) (by k_asm)

end
theorem laid3 : True := by
  k_with_none
  k_with "k_room" => ktr_room
  k_with "call builtin:len" => (k_here; (with_reducible show wpAny _ _ (call (Value.builtin "len") [Value.str _ _]) _ _ _); refine r_len (by assumption) ?_)
  k_with "subscriptTail" => (k_here; (with_reducible show wpAny _ _ (subscriptTail _ _ (Value.str _ _) (Value.int _ _)) _ _ _); refine r_item (by assumption) (by first | omega | exact Inv.nn (by assumption)) (by first | omega | (simp only [decide_eq_true_eq] at *; omega)) ?_)
  k_with "compareOp In str str" => (k_here; (with_reducible show wpAny _ _ (compareOp CmpOp.In (Value.str (one _) _) (Value.str _ _)) _ _ _); first | refine r_inB ?_ | refine r_inD ?_ | refine r_in ?_)
  k_with "subscriptTail" => (k_here; (with_reducible show wpAny _ _ (subscriptTail _ (Expr.Slice (some _) (some _) none _) (Value.str _ _) (Value.ref _)) _ _ _); (with_reducible rename Fr _ _ _ _ => F'); (with_reducible rename News _ _ _ _ => N'); (first | (refine r_pk (s := ⟨_, _, _, _, _⟩) F' N' (by assumption) (by omega) ?_) | (refine r_part (s := ⟨_, _, _, _, _⟩) F' N' (by assumption) (by omega) (by first | omega | exact Inv.le (by assumption)) ?_)); intro _ _ _ _ _)
  k_with "compareOp Eq str str" => (k_here; (with_reducible show wpAny _ _ (compareOp CmpOp.Eq (Value.str (pk _ _) _) (Value.str _ _)) _ _ _); first | refine r_eq (pk_comma _ _) ?_ | refine r_eq (pk_dot _ _) ?_ | refine r_eq (pk_none _ _) ?_)
  k_with "compareOp NotEq str str" => (k_here; (with_reducible show wpAny _ _ (compareOp CmpOp.NotEq (Value.str (pk _ _) _) (Value.str _ _)) _ _ _); first | refine r_ne (pk_comma _ _) ?_ | refine r_ne (pk_dot _ _) ?_ | refine r_ne (pk_none _ _) ?_)
  k_with "k_all" => assumption
  k_with "compareOp In str str" => (k_here; (with_reducible show wpAny _ _ (compareOp CmpOp.In (Value.str (pk _ _) _) (Value.str _ _)) _ _ _); refine r_inL (by assumption) ?_)
  k_with "ktr_room" => ((try simp only [depth_under_make, depth_under_kw, depth_in1, depth_deeper, depth_caller]); (try dsimp only [ktrTop]); first | exact roomG (by assumption) (by decide) | exact roomA (by assumption) (by decide) | exact roomZ (by assumption))
  k_with "ktr_units" => ((try simp only [units_in1, units_deeper, Around.mark_units, units_caller]); (try dsimp only [ktrTop]); first | exact roomG (by assumption) (by decide) | exact roomA (by assumption) (by decide) | exact roomZ (by assumption))
  k_with "k_ne" => (refine neN ?_; (try dsimp only); first | exact neLt (by assumption) | exact neGt (by assumption) | exact neGt (And.left (by assumption)) | exact neGt (And.left (And.right (by assumption))) | exact neGt (And.left (And.right (And.right (by assumption)))) | exact neGt (And.left (And.right (And.right (And.right (by assumption))))))
  trivial
section
set_option maxHeartbeats 8000000 in
theorem c_gcd (w : World) (mean : ExcName → Option Value) (mg mb : Str → Option Value) (a0 b0 : Int) (ta tb : Tok) (hb : 0 ≤ b0) : FnC w mean mg mb 79 [.int a0 ta, .int b0 tb] 3 40 (fun r => ∃ t g, r = .int g t ∧ g = (Int.gcd a0 b0 : Nat) ∧ (0 < b0 → 0 < g ∧ g ≤ b0)) := by
  unfold FnC
  k_fill
  intro news dp un gd cn cs a ccd cl outer A₀ base h₀ L m s Q E B F X N TT hck hdp hun hret
  refine wpAny_call ?_
  k_dflt cell_enter
  k_with "exec While Compare cons nil" => k_while (fun (_ : List Int) (f g : Int) => GInv a0 b0 f g) (fun (_ : List Int) (_ g : Int) => g.toNat) "first" "second"
  k_with "state" => first | exact ginv_start hb | exact ginv_go kInv (by assumption)
  k_with "measure" => first | exact ginv_m kInv (by assumption)
  k_steps
  all_goals exact hret _ _ _ ⟨_, _, rfl, ginv_end kInv (by assumption), fun h => gcd_pos9 h (ginv_end kInv (by assumption))⟩ (by k_asm) (by first | k_asm | (refine cb_drop (by assumption) ?_; kcj_all))

end
theorem laid4 : True := by
  k_with_none
  k_with "k_room" => ktr_room
  k_with "call builtin:len" => (k_here; (with_reducible show wpAny _ _ (call (Value.builtin "len") [Value.str _ _]) _ _ _); refine r_len (by assumption) ?_)
  k_with "subscriptTail" => (k_here; (with_reducible show wpAny _ _ (subscriptTail _ _ (Value.str _ _) (Value.int _ _)) _ _ _); refine r_item (by assumption) (by first | omega | exact Inv.nn (by assumption)) (by first | omega | (simp only [decide_eq_true_eq] at *; omega)) ?_)
  k_with "compareOp In str str" => (k_here; (with_reducible show wpAny _ _ (compareOp CmpOp.In (Value.str (one _) _) (Value.str _ _)) _ _ _); first | refine r_inB ?_ | refine r_inD ?_ | refine r_in ?_)
  k_with "subscriptTail" => (k_here; (with_reducible show wpAny _ _ (subscriptTail _ (Expr.Slice (some _) (some _) none _) (Value.str _ _) (Value.ref _)) _ _ _); (with_reducible rename Fr _ _ _ _ => F'); (with_reducible rename News _ _ _ _ => N'); (first | (refine r_pk (s := ⟨_, _, _, _, _⟩) F' N' (by assumption) (by omega) ?_) | (refine r_part (s := ⟨_, _, _, _, _⟩) F' N' (by assumption) (by omega) (by first | omega | exact Inv.le (by assumption)) ?_)); intro _ _ _ _ _)
  k_with "compareOp Eq str str" => (k_here; (with_reducible show wpAny _ _ (compareOp CmpOp.Eq (Value.str (pk _ _) _) (Value.str _ _)) _ _ _); first | refine r_eq (pk_comma _ _) ?_ | refine r_eq (pk_dot _ _) ?_ | refine r_eq (pk_none _ _) ?_)
  k_with "compareOp NotEq str str" => (k_here; (with_reducible show wpAny _ _ (compareOp CmpOp.NotEq (Value.str (pk _ _) _) (Value.str _ _)) _ _ _); first | refine r_ne (pk_comma _ _) ?_ | refine r_ne (pk_dot _ _) ?_ | refine r_ne (pk_none _ _) ?_)
  k_with "k_all" => assumption
  k_with "compareOp In str str" => (k_here; (with_reducible show wpAny _ _ (compareOp CmpOp.In (Value.str (pk _ _) _) (Value.str _ _)) _ _ _); refine r_inL (by assumption) ?_)
  k_with "ktr_room" => ((try simp only [depth_under_make, depth_under_kw, depth_in1, depth_deeper, depth_caller]); (try dsimp only [ktrTop]); first | exact roomG (by assumption) (by decide) | exact roomA (by assumption) (by decide) | exact roomZ (by assumption))
  k_with "ktr_units" => ((try simp only [units_in1, units_deeper, Around.mark_units, units_caller]); (try dsimp only [ktrTop]); first | exact roomG (by assumption) (by decide) | exact roomA (by assumption) (by decide) | exact roomZ (by assumption))
  k_with "k_ne" => (refine neN ?_; (try dsimp only); first | exact neLt (by assumption) | exact neGt (by assumption) | exact neGt (And.left (by assumption)) | exact neGt (And.left (And.right (by assumption))) | exact neGt (And.left (And.right (And.right (by assumption)))) | exact neGt (And.left (And.right (And.right (And.right (by assumption))))))
  trivial
section
theorem wordsfrac00 : True := by
  k_with "call ref" => (k_here; (try dsimp only [List.append_nil, List.cons_append, List.nil_append]); (with_reducible show wpAny _ _ (call (Value.ref 79) [Value.int _ _, Value.int _ _]) _ _ _); k_dflt (refine' c_gcd _ _ _ _ _ _ _ _ ?hzh0 _ _ _ _ _ _ _ _ _ _ _ _ _ _ _ _ _ _ ?hzB ?hzF ?hzX ?hzN ?hzT ?hzck ?hzdp ?hzun ?_; (case hzB => k_asm); (case hzF => k_asm); (case hzX => k_asm); (case hzN => k_asm); (case hzT => k_asm); (case hzck => first | exact rfl | assumption); (case hzh0 => omega); (case hzdp => ktr_room); (case hzun => ktr_units)); intro r' h' tk' hP' F' N'; obtain ⟨t9, g9, hr', hg9, hp9⟩ := hP'; subst hr'; (obtain ⟨hp9, hq9⟩ := hp9 (by omega)); (try k_sweep))
  trivial
set_option maxHeartbeats 8000000 in
theorem c_frac (w : World) (mean : ExcName → Option Value) (mg mb : Str → Option Value) (a0 b0 : Int) (ta tb : Tok) (hb : 0 < b0) (hb2 : b0 ≤ 1000000) : TuC w mean mg mb 87 [.int a0 ta, .int b0 tb] 6 80 (fun l => ∃ t u, l = [.int (Int.fdiv a0 (Int.gcd a0 b0 : Nat)) t, .int (Int.fdiv b0 (Int.gcd a0 b0 : Nat)) u]) := by
  unfold TuC
  k_fill
  intro news dp un gd cn cs a ccd cl outer A₀ base h₀ L m s Q E B F X N TT hck hdp hun hret
  refine wpAny_call ?_
  k_dflt (refine' code_def ?k1 ?k2 ?k3 ?k4 ?k5 ?kA ?kF ?kK ?k6 ?k7 ?k8 ?k9 ?kB ?_ ?c2 ?c3 ?c4 ?c5; (case kA => exact rfl); (case kF => exact rfl); (case kK => first | exact rfl | assumption); (case k1 => k_asm); (case k2 => k_asm); (case k3 => k_asm); (case k4 => k_asm); (case k5 => k_asm); (case k6 => k_is); (case k7 => k_is); (case k8 => ktr_room); (case k9 => first | exact BindsTo.of_eq rfl | exact binds_K (by k_in) rfl (by k_is) rfl rfl rfl); (case c5 => decide); (case kB => exact locs rfl); (case c2 => exact rfl); (case c3 => exact rfl); (case c4 => exact rfl); k_whole; intro g' L' h' FG' F' N' B' X' T'; (try dsimp only); (try k_lift B'); (try k_fold))
  k_steps
  all_goals first
    | (exfalso; omega)
    | ((rename (_ = ((Int.gcd _ _ : Nat) : Int)) => hg9); subst hg9; exact hret _ [_, _] _ _ ⟨_, _, rfl⟩ (by k_asm) (by first | k_asm | (refine cb_drop (by assumption) ?_; kcj_all)) (by assumption))

end
theorem laid5 : True := by
  k_with_none
  k_with "k_room" => ktr_room
  k_with "call builtin:len" => (k_here; (with_reducible show wpAny _ _ (call (Value.builtin "len") [Value.str _ _]) _ _ _); refine r_len (by assumption) ?_)
  k_with "subscriptTail" => (k_here; (with_reducible show wpAny _ _ (subscriptTail _ _ (Value.str _ _) (Value.int _ _)) _ _ _); refine r_item (by assumption) (by first | omega | exact Inv.nn (by assumption)) (by first | omega | (simp only [decide_eq_true_eq] at *; omega)) ?_)
  k_with "compareOp In str str" => (k_here; (with_reducible show wpAny _ _ (compareOp CmpOp.In (Value.str (one _) _) (Value.str _ _)) _ _ _); first | refine r_inB ?_ | refine r_inD ?_ | refine r_in ?_)
  k_with "subscriptTail" => (k_here; (with_reducible show wpAny _ _ (subscriptTail _ (Expr.Slice (some _) (some _) none _) (Value.str _ _) (Value.ref _)) _ _ _); (with_reducible rename Fr _ _ _ _ => F'); (with_reducible rename News _ _ _ _ => N'); (first | (refine r_pk (s := ⟨_, _, _, _, _⟩) F' N' (by assumption) (by omega) ?_) | (refine r_part (s := ⟨_, _, _, _, _⟩) F' N' (by assumption) (by omega) (by first | omega | exact Inv.le (by assumption)) ?_)); intro _ _ _ _ _)
  k_with "compareOp Eq str str" => (k_here; (with_reducible show wpAny _ _ (compareOp CmpOp.Eq (Value.str (pk _ _) _) (Value.str _ _)) _ _ _); first | refine r_eq (pk_comma _ _) ?_ | refine r_eq (pk_dot _ _) ?_ | refine r_eq (pk_none _ _) ?_)
  k_with "compareOp NotEq str str" => (k_here; (with_reducible show wpAny _ _ (compareOp CmpOp.NotEq (Value.str (pk _ _) _) (Value.str _ _)) _ _ _); first | refine r_ne (pk_comma _ _) ?_ | refine r_ne (pk_dot _ _) ?_ | refine r_ne (pk_none _ _) ?_)
  k_with "k_all" => assumption
  k_with "compareOp In str str" => (k_here; (with_reducible show wpAny _ _ (compareOp CmpOp.In (Value.str (pk _ _) _) (Value.str _ _)) _ _ _); refine r_inL (by assumption) ?_)
  k_with "ktr_room" => ((try simp only [depth_under_make, depth_under_kw, depth_in1, depth_deeper, depth_caller]); (try dsimp only [ktrTop]); first | exact roomG (by assumption) (by decide) | exact roomA (by assumption) (by decide) | exact roomZ (by assumption))
  k_with "ktr_units" => ((try simp only [units_in1, units_deeper, Around.mark_units, units_caller]); (try dsimp only [ktrTop]); first | exact roomG (by assumption) (by decide) | exact roomA (by assumption) (by decide) | exact roomZ (by assumption))
  k_with "k_ne" => (refine neN ?_; (try dsimp only); first | exact neLt (by assumption) | exact neGt (by assumption) | exact neGt (And.left (by assumption)) | exact neGt (And.left (And.right (by assumption))) | exact neGt (And.left (And.right (And.right (by assumption)))) | exact neGt (And.left (And.right (And.right (And.right (by assumption))))))
  trivial
section
def wholeL (l : List Int) : Int := l.foldl (fun n c => n * 10 + (c - 48)) 0
theorem wholeL_snoc (l : List Int) (c : Int) : wholeL (l ++ [c]) = wholeL l * 10 + (c - 48) := by unfold wholeL; rw [List.foldl_append]; rfl
theorem isD_cases {c : Nat} (h : isD c = true) : 48 ≤ c ∧ c ≤ 57 := by
  unfold isD at h
  have := of_decide_eq_true h
  simp only [List.mem_cons, List.not_mem_nil, or_false] at this
  omega
theorem idx_tab : ∀ d : Fin 10, Builtin.Str.occurrences (Str.ofString "0123456789") ⟨#[48 + d.val]⟩ 0 (Str.ofString "0123456789").length 1 = [d.val] := by decide +kernel
theorem r_didx {prog : Program} {w : World} {A : Around} {E : Value → Shared → Prop} {s : Shared} {t u : Tok} {Q : Value → Shared → Prop} {c : Nat} (hc : isD c = true) (h : Q (.int ((c : Int) - 48) s.toks) { s with toks := s.toks + 1 }) :
    wpAny (model prog w) A (call (.builtin "str.index") [.str (Str.ofString "0123456789") t, .str ⟨#[c]⟩ u]) Q E s := by
  obtain ⟨h1, h2⟩ := isD_cases hc
  refine SC.index (i := c - 48) (rest := []) ?_ (by rw [show ((c - 48 : Nat) : Int) = (c : Int) - 48 by omega]; exact h)
  have := idx_tab ⟨c - 48, by omega⟩
  rw [show 48 + (⟨c - 48, by omega⟩ : Fin 10).val = c by show 48 + (c - 48) = c; omega] at this
  exact this
theorem digit_in {D : Str} {c : Nat} {l r : List Int} (hD : ∀ c ∈ D.cps.toList, isD c = true) (e : KStt.codes D = l ++ (c : Int) :: r) : isD c = true := by
  have h : (c : Int) ∈ KStt.codes D := by rw [e]; simp
  unfold KStt.codes at h
  obtain ⟨n, hn, q⟩ := List.mem_map.mp h
  have q' : (n : Int) = (c : Int) := q
  have : n = c := by omega
  exact hD c (this ▸ hn)
theorem wordswhg0 : True := by
  k_with "call builtin:str.index" => (k_here; refine r_didx (digit_in (by assumption) (by assumption)) ?_)
  trivial
set_option maxHeartbeats 8000000 in
theorem c_wholeG (w : World) (mean : ExcName → Option Value) (mg mb : Str → Option Value) (D : Str) (hS : Short D) (hD : ∀ c ∈ D.cps.toList, isD c = true) (tt : Tok) : FnC w mean mg mb 136 [.str D tt] 3 40 (fun r => ∃ t, r = .int (wholeL (KStt.codes D)) t) := by
  unfold FnC
  k_fill
  intro news dp un gd cn cs a ccd cl outer A₀ base h₀ L m s Q E B F X N TT hck hdp hun hret
  refine wpAny_call ?_
  k_dflt cell_enter
  k_with "pyIter str" => k_state (fun (pre : List Int) (n : Int) => n = wholeL pre) "number"
  k_with "state" => first | rfl | (rw [wholeL_snoc]; simp_all; done)
  k_steps
  all_goals exact hret _ _ _ ⟨_, congrArg (fun z => Value.int z _) kInv⟩ (by k_asm) (by k_asm)

end
theorem laid6 : True := by
  k_with_none
  k_with "k_room" => ktr_room
  k_with "call builtin:len" => (k_here; (with_reducible show wpAny _ _ (call (Value.builtin "len") [Value.str _ _]) _ _ _); refine r_len (by assumption) ?_)
  k_with "subscriptTail" => (k_here; (with_reducible show wpAny _ _ (subscriptTail _ _ (Value.str _ _) (Value.int _ _)) _ _ _); refine r_item (by assumption) (by first | omega | exact Inv.nn (by assumption)) (by first | omega | (simp only [decide_eq_true_eq] at *; omega)) ?_)
  k_with "compareOp In str str" => (k_here; (with_reducible show wpAny _ _ (compareOp CmpOp.In (Value.str (one _) _) (Value.str _ _)) _ _ _); first | refine r_inB ?_ | refine r_inD ?_ | refine r_in ?_)
  k_with "subscriptTail" => (k_here; (with_reducible show wpAny _ _ (subscriptTail _ (Expr.Slice (some _) (some _) none _) (Value.str _ _) (Value.ref _)) _ _ _); (with_reducible rename Fr _ _ _ _ => F'); (with_reducible rename News _ _ _ _ => N'); (first | (refine r_pk (s := ⟨_, _, _, _, _⟩) F' N' (by assumption) (by omega) ?_) | (refine r_part (s := ⟨_, _, _, _, _⟩) F' N' (by assumption) (by omega) (by first | omega | exact Inv.le (by assumption)) ?_)); intro _ _ _ _ _)
  k_with "compareOp Eq str str" => (k_here; (with_reducible show wpAny _ _ (compareOp CmpOp.Eq (Value.str (pk _ _) _) (Value.str _ _)) _ _ _); first | refine r_eq (pk_comma _ _) ?_ | refine r_eq (pk_dot _ _) ?_ | refine r_eq (pk_none _ _) ?_)
  k_with "compareOp NotEq str str" => (k_here; (with_reducible show wpAny _ _ (compareOp CmpOp.NotEq (Value.str (pk _ _) _) (Value.str _ _)) _ _ _); first | refine r_ne (pk_comma _ _) ?_ | refine r_ne (pk_dot _ _) ?_ | refine r_ne (pk_none _ _) ?_)
  k_with "k_all" => assumption
  k_with "compareOp In str str" => (k_here; (with_reducible show wpAny _ _ (compareOp CmpOp.In (Value.str (pk _ _) _) (Value.str _ _)) _ _ _); refine r_inL (by assumption) ?_)
  k_with "ktr_room" => ((try simp only [depth_under_make, depth_under_kw, depth_in1, depth_deeper, depth_caller]); (try dsimp only [ktrTop]); first | exact roomG (by assumption) (by decide) | exact roomA (by assumption) (by decide) | exact roomZ (by assumption))
  k_with "ktr_units" => ((try simp only [units_in1, units_deeper, Around.mark_units, units_caller]); (try dsimp only [ktrTop]); first | exact roomG (by assumption) (by decide) | exact roomA (by assumption) (by decide) | exact roomZ (by assumption))
  k_with "k_ne" => (refine neN ?_; (try dsimp only); first | exact neLt (by assumption) | exact neGt (by assumption) | exact neGt (And.left (by assumption)) | exact neGt (And.left (And.right (by assumption))) | exact neGt (And.left (And.right (And.right (by assumption)))) | exact neGt (And.left (And.right (And.right (And.right (by assumption))))))
  trivial
section
/-- the parts of a number that begins at k -/
def numA (T : Str) (k : Int) : Int := if sgnAt T k = true then k + 1 else k
def numB (T : Str) (k : Int) : Int := stop isD T (numA T k)
def numC (T : Str) (k : Int) : Int := if isAt T (numB T k) 46 = true then stop isD T (numB T k + 1) else numB T k
def many (T : Str) (k : Int) : Int := if isAt T (numB T k) 46 = true then numB T k - numA T k + (numC T k - (numB T k + 1)) else numB T k - numA T k
def numEnd (T : Str) (k : Int) : Int := expEnd T (numC T k)

end
section
/-- a mark: the next If of number is joined -/
def JoinOn (_n : Nat) (_T : Str) (_k : Int) : Prop := True
theorem join1 {M : Model} {A : Around} {t : Sem Flow} {Q : Flow → Shared → Prop} {E : Value → Shared → Prop} {hp g : Heap} {gg dd os} {L : Addr} {m : Str → Option Value} {w : World} {T : Str} {k : Int} {ta tb tc td : Tok} {t0 : Nat} {d : Addr} {rest : List (Addr × Obj)}
    (_ : JoinOn 1 T k) (_ : Fr g L hp m) (_ : News g L hp ((d, dictOf [⟨PyData.keyHash w.params (Str.ofString "text"), .str (Str.ofString "text") ta, .str T tb⟩, ⟨PyData.keyHash w.params (Str.ofString "at"), .str (Str.ofString "at") tc, .int k td⟩] 2) :: rest))
    (h : ∀ Q' : Flow → Shared → Prop, (∀ h' tk' td' i, i = numA T k → k ≤ i → Fr g L h' m → News g L h' ((d, dictOf [⟨PyData.keyHash w.params (Str.ofString "text"), .str (Str.ofString "text") ta, .str T tb⟩, ⟨PyData.keyHash w.params (Str.ofString "at"), .str (Str.ofString "at") tc, .int i td'⟩] 2) :: rest) → Q' .next ⟨h', gg, dd, tk', os⟩) → wpAny M A t Q' E ⟨hp, gg, dd, t0, os⟩)
    (hQ : ∀ h' tk' td' i, JoinOn 2 T k → i = numA T k → k ≤ i → Fr g L h' m → News g L h' ((d, dictOf [⟨PyData.keyHash w.params (Str.ofString "text"), .str (Str.ofString "text") ta, .str T tb⟩, ⟨PyData.keyHash w.params (Str.ofString "at"), .str (Str.ofString "at") tc, .int i td'⟩] 2) :: rest) → Q .next ⟨h', gg, dd, tk', os⟩) : wpAny M A t Q E ⟨hp, gg, dd, t0, os⟩ :=
  h Q fun h' tk' td' i => hQ h' tk' td' i trivial
theorem join2 {M : Model} {A : Around} {t : Sem Flow} {Q : Flow → Shared → Prop} {E : Value → Shared → Prop} {hp g : Heap} {gg dd os} {L : Addr} {m : Str → Option Value} {w : World} {T : Str} {k j n : Int} {ta tb tc td tn : Tok} {t0 : Nat} {d : Addr} {rest : List (Addr × Obj)}
    (_ : JoinOn 2 T k) (_ : Fr g L hp (fun y => if y = Str.ofString "many" then some (.int n tn) else m y)) (_ : News g L hp ((d, dictOf [⟨PyData.keyHash w.params (Str.ofString "text"), .str (Str.ofString "text") ta, .str T tb⟩, ⟨PyData.keyHash w.params (Str.ofString "at"), .str (Str.ofString "at") tc, .int j td⟩] 2) :: rest))
    (h : ∀ Q' : Flow → Shared → Prop, (∀ h' tk' td' i n' tn', i = numC T k → j ≤ i → n' = many T k → Fr g L h' (fun y => if y = Str.ofString "many" then some (.int n' tn') else m y) → News g L h' ((d, dictOf [⟨PyData.keyHash w.params (Str.ofString "text"), .str (Str.ofString "text") ta, .str T tb⟩, ⟨PyData.keyHash w.params (Str.ofString "at"), .str (Str.ofString "at") tc, .int i td'⟩] 2) :: rest) → Q' .next ⟨h', gg, dd, tk', os⟩) → wpAny M A t Q' E ⟨hp, gg, dd, t0, os⟩)
    (hQ : ∀ h' tk' td' i n' tn', i = numC T k → j ≤ i → n' = many T k → Fr g L h' (fun y => if y = Str.ofString "many" then some (.int n' tn') else m y) → News g L h' ((d, dictOf [⟨PyData.keyHash w.params (Str.ofString "text"), .str (Str.ofString "text") ta, .str T tb⟩, ⟨PyData.keyHash w.params (Str.ofString "at"), .str (Str.ofString "at") tc, .int i td'⟩] 2) :: rest) → Q .next ⟨h', gg, dd, tk', os⟩) : wpAny M A t Q E ⟨hp, gg, dd, t0, os⟩ :=
  h Q hQ
theorem fr_twice {g : Heap} {L : Addr} {h : Heap} {m : Str → Option Value} {a : Str} {v v' : Option Value} (F : Fr g L h (fun y => if y = a then v else if y = a then v' else m y)) : Fr g L h (fun y => if y = a then v else m y) := by
  have e : (fun y => if y = a then v else if y = a then v' else m y) = (fun y => if y = a then v else m y) := by
    funext y
    by_cases h : y = a <;> simp [h]
  exact e ▸ F
theorem news_tail {g h : Heap} {L : Addr} {z : Addr × Obj} {n : List (Addr × Obj)} (N : News g L h (z :: n)) : News g L h n := fun p hp => N p (.tail _ hp)

end
section
theorem parked {P : Prop} (h : id P) : P := h

end
theorem laid7 : True := by
  k_with "call ref" => (k_here; (try dsimp only [List.append_nil, List.cons_append, List.nil_append]); (with_reducible show wpAny _ _ (call (Value.ref 192) [Value.ref _]) _ _ _); k_dflt (refine' sc_use (c_spaces _ _ _ _ _ ?hzhT _ ?hzh0) ?hzB ?hzF ?hzX ?hzN ?hzT ?hzck ?hzhx ?hzlt ?hzU ?hzdp ?hzun ?_; (case hzB => k_asm); (case hzF => k_asm); (case hzX => k_asm); (case hzN => k_asm); (case hzT => k_asm); (case hzck => first | exact rfl | assumption); (case hzhx => k_mem); (case hzlt => assumption); (case hzU => intro i td'; k_upd); (case hzhT => assumption); (case hzh0 => omega); (case hzdp => ktr_room); (case hzun => ktr_units)); intro r' h' tk' td' i' hP' F' N'; obtain ⟨hr', hi', hl'⟩ := hP'; subst hr'; (try k_sweep))
  k_with "call ref" => (k_here; (try dsimp only [List.append_nil, List.cons_append, List.nil_append]); (with_reducible show wpAny _ _ (call (Value.ref 213) [Value.ref _]) _ _ _); k_dflt (refine' sc_use (c_digits _ _ _ _ _ ?hzhT _ ?hzh0) ?hzB ?hzF ?hzX ?hzN ?hzT ?hzck ?hzhx ?hzlt ?hzU ?hzdp ?hzun ?_; (case hzB => k_asm); (case hzF => k_asm); (case hzX => k_asm); (case hzN => k_asm); (case hzT => k_asm); (case hzck => first | exact rfl | assumption); (case hzhx => k_mem); (case hzlt => assumption); (case hzU => intro i td'; k_upd); (case hzhT => assumption); (case hzh0 => omega); (case hzdp => ktr_room); (case hzun => ktr_units)); intro r' h' tk' td' i' hP' F' N'; obtain ⟨hr', hi', hl'⟩ := hP'; obtain ⟨t9, hr'⟩ := hr'; subst hr'; (try k_sweep))
  trivial
section
set_option maxHeartbeats 8000000 in
theorem c_separator (w : World) (mean : ExcName → Option Value) (mg mb : Str → Option Value) (T : Str) (hT : Short T) (k : Int) (hk : 0 ≤ k) : ScC w mean mg mb 199 6 60 T k (fun r i => (∃ b, r = .bool b) ∧ i = sepEnd T k ∧ k ≤ i) := by
  unfold ScC ObC
  k_fill
  intro x d hxd rest ta tb tc td hne dp un gd cn cs a ccd cl outer A₀ base h₀ L m s Q E B F X N TT hck hdp hun hret
  refine wpAny_call ?_
  k_dflt cell_enter
  k_steps
  all_goals (refine hret _ _ _ _ _ ?_ (by k_asm) (by k_asm); refine ⟨⟨_, rfl⟩, ?_, by omega⟩; unfold sepEnd; simp_all)

end
section
set_option maxHeartbeats 8000000 in
theorem c_looks (w : World) (mean : ExcName → Option Value) (mg mb : Str → Option Value) (T : Str) (hT : Short T) (k : Int) (hk : 0 ≤ k) : ScC w mean mg mb 206 6 60 T k (fun r i => r = .bool (looksAt T k) ∧ i = k ∧ k ≤ i) := by
  unfold ScC ObC
  k_fill
  intro x d hxd rest ta tb tc td hne dp un gd cn cs a ccd cl outer A₀ base h₀ L m s Q E B F X N TT hck hdp hun hret
  refine wpAny_call ?_
  k_dflt cell_enter
  k_steps
  all_goals first
    | exact hret _ _ _ _ _ ⟨congrArg Value.bool (looks_nil (by assumption)), rfl, Int.le_refl _⟩ (by k_asm) (by k_asm)
    | exact hret _ _ _ _ _ ⟨rfl, rfl, Int.le_refl _⟩ (by k_asm) (by k_asm)

end
theorem laid8 : True := by
  k_with "exec If" => ((with_reducible rename JoinOn 1 _ _ => hj); k_here; (with_reducible show wpAny _ _ (exec (Stmt.If (Expr.Compare _ [CmpOp.In] _ _) _ [] _) _) _ _ _); (with_reducible rename Fr _ _ _ _ => F'); (with_reducible rename News _ _ _ _ => N'); (first | refine join1 hj F' N' ?_ ?_ | refine join1 hj F' (news_tail N') ?_ ?_); (clear hj; intro Q' hq'); rotate_left; (clear hj F' N'; intro h' tk' td' i' hj' hi' hl' F' N'))
  k_with "exec If" => ((with_reducible rename JoinOn 2 _ _ => hj); k_here; (with_reducible rename Fr _ _ _ _ => F'); (with_reducible rename News _ _ _ _ => N'); refine join2 hj F' N' ?_ ?_; (clear hj; intro Q' hq'); rotate_left; (clear hj F' N'; intro h' tk' td' i' n' tn' hi' hl' hn' F' N'; subst hn'))
  k_with "call ref" => (k_here; (with_reducible show wpAny _ _ (call (Value.ref 185) [_, _]) _ _ _); contradiction)
  k_with "call ref" => (k_here; (try dsimp only [List.append_nil, List.cons_append, List.nil_append]); (with_reducible show wpAny _ _ (call (Value.ref 220) [_]) _ _ _); contradiction)
  trivial
section
set_option maxHeartbeats 8000000 in
theorem c_expo (w : World) (mean : ExcName → Option Value) (mg mb : Str → Option Value) (T : Str) (hT : Short T) (k : Int) (hk : 0 ≤ k) : ScC w mean mg mb 220 6 60 T k (fun r i => r = .none ∧ i = expEnd T k ∧ k ≤ i) := by
  unfold ScC ObC
  k_fill
  intro x d hxd rest ta tb tc td hne dp un gd cn cs a ccd cl outer A₀ base h₀ L m s Q E B F X N TT hck hdp hun hret
  have hj : JoinOn 1 T (k + 1) := trivial
  refine wpAny_call ?_
  k_dflt cell_enter
  k_steps
  all_goals first
    | (rename (∀ h' tk' td' i, i = numA _ _ → _) => hq'
       refine hq' _ _ _ _ ?_ ?_ (by k_asm) (by first | k_asm | (refine cb_drop (by assumption) ?_; kcj_all))
       · (simp only [any_s] at *); unfold numA; simp_all; done
       · omega)
    | (refine hret _ _ _ _ _ ?_ (by k_asm) (by first | k_asm | (refine cb_drop (by assumption) ?_; kcj_all)); refine ⟨rfl, ?_, by omega⟩; (simp only [any_e] at *); unfold expEnd; (try unfold numA at *); simp_all; done)
    | (refine hret _ _ _ _ _ ?_ (by k_asm) (by first | k_asm | (refine cb_drop (by assumption) ?_; kcj_all)); refine ⟨rfl, ?_, by omega⟩; (simp only [any_e] at *); unfold expEnd; (try unfold numA at *); split at * <;> simp_all; done)

end
theorem laid9 : True := by
  k_with_none
  k_with "k_room" => ktr_room
  k_with "call builtin:len" => (k_here; (with_reducible show wpAny _ _ (call (Value.builtin "len") [Value.str _ _]) _ _ _); refine r_len (by assumption) ?_)
  k_with "subscriptTail" => (k_here; (with_reducible show wpAny _ _ (subscriptTail _ _ (Value.str _ _) (Value.int _ _)) _ _ _); refine r_item (by assumption) (by first | omega | exact Inv.nn (by assumption)) (by first | omega | (simp only [decide_eq_true_eq] at *; omega)) ?_)
  k_with "compareOp In str str" => (k_here; (with_reducible show wpAny _ _ (compareOp CmpOp.In (Value.str (one _) _) (Value.str _ _)) _ _ _); first | refine r_inB ?_ | refine r_inD ?_ | refine r_in ?_)
  k_with "subscriptTail" => (k_here; (with_reducible show wpAny _ _ (subscriptTail _ (Expr.Slice (some _) (some _) none _) (Value.str _ _) (Value.ref _)) _ _ _); (with_reducible rename Fr _ _ _ _ => F'); (with_reducible rename News _ _ _ _ => N'); (first | (refine r_pk (s := ⟨_, _, _, _, _⟩) F' N' (by assumption) (by omega) ?_) | (refine r_part (s := ⟨_, _, _, _, _⟩) F' N' (by assumption) (by omega) (by first | omega | exact Inv.le (by assumption)) ?_)); intro _ _ _ _ _)
  k_with "compareOp Eq str str" => (k_here; (with_reducible show wpAny _ _ (compareOp CmpOp.Eq (Value.str (pk _ _) _) (Value.str _ _)) _ _ _); first | refine r_eq (pk_comma _ _) ?_ | refine r_eq (pk_dot _ _) ?_ | refine r_eq (pk_none _ _) ?_)
  k_with "compareOp NotEq str str" => (k_here; (with_reducible show wpAny _ _ (compareOp CmpOp.NotEq (Value.str (pk _ _) _) (Value.str _ _)) _ _ _); first | refine r_ne (pk_comma _ _) ?_ | refine r_ne (pk_dot _ _) ?_ | refine r_ne (pk_none _ _) ?_)
  k_with "k_all" => assumption
  k_with "compareOp In str str" => (k_here; (with_reducible show wpAny _ _ (compareOp CmpOp.In (Value.str (pk _ _) _) (Value.str _ _)) _ _ _); refine r_inL (by assumption) ?_)
  k_with "ktr_room" => ((try simp only [depth_under_make, depth_under_kw, depth_in1, depth_deeper, depth_caller]); (try dsimp only [ktrTop]); first | exact roomG (by assumption) (by decide) | exact roomA (by assumption) (by decide) | exact roomZ (by assumption))
  k_with "ktr_units" => ((try simp only [units_in1, units_deeper, Around.mark_units, units_caller]); (try dsimp only [ktrTop]); first | exact roomG (by assumption) (by decide) | exact roomA (by assumption) (by decide) | exact roomZ (by assumption))
  k_with "k_ne" => (refine neN ?_; (try dsimp only); first | exact neLt (by assumption) | exact neGt (by assumption) | exact neGt (And.left (by assumption)) | exact neGt (And.left (And.right (by assumption))) | exact neGt (And.left (And.right (And.right (by assumption)))) | exact neGt (And.left (And.right (And.right (And.right (by assumption))))))
  k_with "exec Raise some none" => (k_here; refine exec_raise rfl ?_)
  k_with "call ref" => (k_here; (try dsimp only [List.append_nil, List.cons_append, List.nil_append]); (with_reducible show wpAny _ _ (call (Value.ref _) (Value.str _ _ :: _)) _ _ _); k_dflt (refine' call_exc ?hzF ?hzX ?hzN ?hzc ?hzi ?hzf ?hzz ?_; (case hzF => k_asm); (case hzX => k_asm); (case hzN => k_asm); (case hzc => kernel_rfl); (case hzi => k_is); (case hzf => k_is); (case hzz => exact Nat.le_of_ble_eq_true rfl); intro x' d' h' F' N' l1 l2; (try ((rename (∀ p ∈ _, Prod.fst p ≠ _) => hne9); have l8 := ne_more hne9 (fun p hp => Nat.lt_trans (l1 p (by (iterate 8 (try first | exact hp | refine List.Mem.tail _ ?_)))) l2))); (try k_lt l1); (try k_lt2 l2); (try k_sweep); k_enter))
  k_with "setAttr ref" => (k_here; k_dflt (first | (refine' setE_first ?hzF ?hzX ?hzN ?hzs ?hzo ?hzt ?hzd ?hzm ?hzU ?_; (case hzF => k_asm); (case hzX => k_asm); (case hzN => k_asm); (case hzm => k_mem); (case hzs => k_is); (case hzo => kernel_rfl); (case hzt => k_is); (case hzd => k_is); (case hzU => intro d9; k_upd); intro d' h' F' N' l1; (try k_lt l1); (try k_sweep)) | (refine' setE_next ?hzF ?hzX ?hzN ?hzs ?hzo ?hzt ?hzd ?hzm ?hzm2 ?hzl ?hze ?hzU ?hzz ?_; (case hzF => k_asm); (case hzX => k_asm); (case hzN => k_asm); (case hzm => k_mem); (case hzm2 => k_mem); (case hzs => k_is); (case hzo => kernel_rfl); (case hzt => k_is); (case hzd => k_is); (case hzl => k_get); (case hze => k_put); (case hzU => k_upd); (case hzz => exact Nat.le_of_ble_eq_true rfl); intro h' F' N'; (try k_sweep))))
  trivial
section
set_option maxHeartbeats 4000000 in
theorem c_fault (w : World) (mean : ExcName → Option Value) (mg mb : Str → Option Value) (T msg : Str) (k : Int) (x d : Addr) (hxd : @LT.lt Nat _ d x) (rest : List (Addr × Obj)) (ta tb tc td tm : Tok) (hne : ∀ p ∈ rest, p.1 ≠ d) :
    ∀ (dp un : Nat) (gd : Option (List Code)) (cn : Str) (cs : Scope) (a : Addr) (ccd : Value) (cl : List (Str × Addr)) (outer : List Env) (A₀ : Around) (base h₀ : Heap) (L : Addr) (m : Str → Option Value) (s : Shared) (Q E : Value → Shared → Prop), Below A₀ base outer h₀ → Fr h₀ L s.heap m → (hd.heap_39 w.params).In h₀ → News h₀ L s.heap ((d, dictOf [⟨PyData.keyHash w.params (Str.ofString "text"), .str (Str.ofString "text") ta, .str T tb⟩, ⟨PyData.keyHash w.params (Str.ofString "at"), .str (Str.ofString "at") tc, .int k td⟩] 2) :: (x, instObj 244 d) :: rest) → Top hd.view_39 (looseW hd.view_39 [Str.ofString "MOST_VALUE", Str.ofString "fraction"]) mean mg mb h₀ → cs.kind = .function → dp + 8 < recursionLimit → un + 80 < cLine →
    (∀ g e dd h' tk', Fr h₀ L g m → RaisedX base g (envX cn cs L a ccd cl :: outer) e 70 dd rest h' → g.UpToSlots h' → E (.ref e) { s with heap := h', toks := tk' }) →
    wpAny (model PySem.Challenge.rw_xm0729_01.row.prog w) (ktrTop dp un gd cn cs L a ccd cl outer) (call (.ref 185) [.ref x, .str msg tm]) Q E s := by
  k_fill
  intro dp un gd cn cs a ccd cl outer A₀ base h₀ L m s Q E B F X N TT hck hdp hun hret
  refine wpAny_call ?_
  k_dflt cell_enter
  k_steps
  (rename Fr _ _ _ _ => lF'); (rename News _ _ _ _ => lN')
  refine' thrownK_ lF' ?X lN' ?m ?c ?h
  case m => k_mem
  case c => kernel_rfl
  case X => k_asm
  refine' leave_excX (C := 70) (news := rest) ?K lF' (news_pick lN' ?m1 ?m2) ?ne ?hk ?fin
  case m1 => k_mem
  case m2 => exact fun p hp => by (iterate 12 (try first | exact hp | refine List.Mem.tail _ ?_))
  case K => k_asm
  case hk => exact rfl
  case ne => assumption
  case fin => exact fun h' R U => hret _ _ _ _ _ (by assumption) R U
theorem fault_use (w : World) (mean : ExcName → Option Value) (mg mb : Str → Option Value) {T msg : Str} {k : Int} {x d : Addr} {rest news : List (Addr × Obj)} {ta tb tc td tm : Tok}
    {dp un : Nat} {gd : Option (List Code)} {cn : Str} {cs : Scope} {a : Addr} {ccd : Value} {cl : List (Str × Addr)} {outer : List Env} {A₀ : Around} {base h₀ : Heap} {L : Addr} {m : Str → Option Value} {s : Shared} {Q E : Value → Shared → Prop}
    (B : Below A₀ base outer h₀) (F : Fr h₀ L s.heap m) (X : (hd.heap_39 w.params).In h₀) (N : News h₀ L s.heap news) (TT : Top hd.view_39 (looseW hd.view_39 [Str.ofString "MOST_VALUE", Str.ofString "fraction"]) mean mg mb h₀) (hck : cs.kind = .function)
    (hx : (x, instObj 244 d) ∈ news) (hd : (d, dictOf [⟨PyData.keyHash w.params (Str.ofString "text"), .str (Str.ofString "text") ta, .str T tb⟩, ⟨PyData.keyHash w.params (Str.ofString "at"), .str (Str.ofString "at") tc, .int k td⟩] 2) ∈ news) (hxd : @LT.lt Nat _ d x) (hne : ∀ p ∈ rest, p.1 ≠ d) (hsub : ∀ p ∈ rest, p ∈ news)
    (hdp : dp + 8 < recursionLimit) (hun : un + 80 < cLine)
    (hret : ∀ g e dd h' tk', Fr h₀ L g m → RaisedX base g (envX cn cs L a ccd cl :: outer) e 70 dd rest h' → g.UpToSlots h' → E (.ref e) { s with heap := h', toks := tk' }) :
    wpAny (model PySem.Challenge.rw_xm0729_01.row.prog w) (ktrTop dp un gd cn cs L a ccd cl outer) (call (.ref 185) [.ref x, .str msg tm]) Q E s :=
  c_fault w mean mg mb T msg k x d hxd rest ta tb tc td tm hne dp un gd cn cs a ccd cl outer A₀ base h₀ L m s Q E B F X (news_pick N hd (fun p hp => by
    rcases List.mem_cons.mp hp with rfl | hp
    · exact hx
    · exact hsub p hp)) TT hck hdp hun hret

end
theorem laid10 : True := by
  k_with_none
  k_with "k_room" => ktr_room
  k_with "call builtin:len" => (k_here; (with_reducible show wpAny _ _ (call (Value.builtin "len") [Value.str _ _]) _ _ _); refine r_len (by assumption) ?_)
  k_with "subscriptTail" => (k_here; (with_reducible show wpAny _ _ (subscriptTail _ _ (Value.str _ _) (Value.int _ _)) _ _ _); refine r_item (by assumption) (by first | omega | exact Inv.nn (by assumption)) (by first | omega | (simp only [decide_eq_true_eq] at *; omega)) ?_)
  k_with "compareOp In str str" => (k_here; (with_reducible show wpAny _ _ (compareOp CmpOp.In (Value.str (one _) _) (Value.str _ _)) _ _ _); first | refine r_inB ?_ | refine r_inD ?_ | refine r_in ?_)
  k_with "subscriptTail" => (k_here; (with_reducible show wpAny _ _ (subscriptTail _ (Expr.Slice (some _) (some _) none _) (Value.str _ _) (Value.ref _)) _ _ _); (with_reducible rename Fr _ _ _ _ => F'); (with_reducible rename News _ _ _ _ => N'); (first | (refine r_pk (s := ⟨_, _, _, _, _⟩) F' N' (by assumption) (by omega) ?_) | (refine r_part (s := ⟨_, _, _, _, _⟩) F' N' (by assumption) (by omega) (by first | omega | exact Inv.le (by assumption)) ?_)); intro _ _ _ _ _)
  k_with "compareOp Eq str str" => (k_here; (with_reducible show wpAny _ _ (compareOp CmpOp.Eq (Value.str (pk _ _) _) (Value.str _ _)) _ _ _); first | refine r_eq (pk_comma _ _) ?_ | refine r_eq (pk_dot _ _) ?_ | refine r_eq (pk_none _ _) ?_)
  k_with "compareOp NotEq str str" => (k_here; (with_reducible show wpAny _ _ (compareOp CmpOp.NotEq (Value.str (pk _ _) _) (Value.str _ _)) _ _ _); first | refine r_ne (pk_comma _ _) ?_ | refine r_ne (pk_dot _ _) ?_ | refine r_ne (pk_none _ _) ?_)
  k_with "k_all" => assumption
  k_with "compareOp In str str" => (k_here; (with_reducible show wpAny _ _ (compareOp CmpOp.In (Value.str (pk _ _) _) (Value.str _ _)) _ _ _); refine r_inL (by assumption) ?_)
  k_with "ktr_room" => ((try simp only [depth_under_make, depth_under_kw, depth_in1, depth_deeper, depth_caller]); (try dsimp only [ktrTop]); first | exact roomG (by assumption) (by decide) | exact roomA (by assumption) (by decide) | exact roomZ (by assumption))
  k_with "ktr_units" => ((try simp only [units_in1, units_deeper, Around.mark_units, units_caller]); (try dsimp only [ktrTop]); first | exact roomG (by assumption) (by decide) | exact roomA (by assumption) (by decide) | exact roomZ (by assumption))
  k_with "k_ne" => (refine neN ?_; (try dsimp only); first | exact neLt (by assumption) | exact neGt (by assumption) | exact neGt (And.left (by assumption)) | exact neGt (And.left (And.right (by assumption))) | exact neGt (And.left (And.right (And.right (by assumption)))) | exact neGt (And.left (And.right (And.right (And.right (by assumption))))))
  k_with "call ref" => (k_here; (try dsimp only [List.append_nil, List.cons_append, List.nil_append]); (with_reducible show wpAny _ _ (call (Value.ref 213) [Value.ref _]) _ _ _); k_dflt (refine' sc_use (c_digits _ _ _ _ _ ?hzhT _ ?hzh0) ?hzB ?hzF ?hzX ?hzN ?hzT ?hzck ?hzhx ?hzlt ?hzU ?hzdp ?hzun ?_; (case hzB => k_asm); (case hzF => k_asm); (case hzX => k_asm); (case hzN => k_asm); (case hzT => k_asm); (case hzck => first | exact rfl | assumption); (case hzhx => k_mem); (case hzlt => assumption); (case hzU => intro i td'; k_upd); (case hzhT => first | assumption | (unfold Short; decide +kernel)); (case hzh0 => first | decide | omega); (case hzdp => ktr_room); (case hzun => ktr_units)); intro r' h' tk' td' i' hP' F' N'; obtain ⟨hr', hi', hl'⟩ := hP'; obtain ⟨t9, hr'⟩ := hr'; subst hr'; (try k_sweep))
  k_with "call ref" => (k_here; (try dsimp only [List.append_nil, List.cons_append, List.nil_append]); (with_reducible show wpAny _ _ (call (Value.ref 220) [Value.ref _]) _ _ _); k_dflt (refine' sc_use (c_expo _ _ _ _ _ ?hzhT _ ?hzh0) ?hzB ?hzF ?hzX ?hzN ?hzT ?hzck ?hzhx ?hzlt ?hzU ?hzdp ?hzun ?_; (case hzB => k_asm); (case hzF => k_asm); (case hzX => k_asm); (case hzN => k_asm); (case hzT => k_asm); (case hzck => first | exact rfl | assumption); (case hzhx => k_mem); (case hzlt => assumption); (case hzU => intro i td'; k_upd); (case hzhT => first | assumption | (unfold Short; decide +kernel)); (case hzh0 => first | decide | omega); (case hzdp => ktr_room); (case hzun => ktr_units)); intro r' h' tk' td' i' hP' F' N'; obtain ⟨hr', hi', hl'⟩ := hP'; subst hr'; (try k_sweep))
  k_with "exec If" => ((with_reducible rename JoinOn 1 _ _ => hj); k_here; (with_reducible show wpAny _ _ (exec (Stmt.If (Expr.Compare _ [CmpOp.In] _ _) _ [] _) _) _ _ _); (with_reducible rename Fr _ _ _ _ => F'); (with_reducible rename News _ _ _ _ => N'); (first | refine join1 hj F' N' ?_ ?_ | refine join1 hj F' (news_tail N') ?_ ?_); (clear hj; intro Q' hq'); rotate_left; (clear hj F' N'; intro h' tk' td' i' hj' hi' hl' F' N'))
  k_with "exec If" => ((with_reducible rename JoinOn 2 _ _ => hj); k_here; (with_reducible rename Fr _ _ _ _ => F'); (with_reducible rename News _ _ _ _ => N'); refine join2 hj F' N' ?_ ?_; (clear hj; intro Q' hq'); rotate_left; (clear hj F' N'; intro h' tk' td' i' n' tn' hi' hl' hn' F' N'; subst hn'))
  k_with "call ref" => (k_here; (with_reducible show wpAny _ _ (call (Value.ref 185) [_, _]) _ _ _); contradiction)
  k_with "call ref" => (k_here; (try dsimp only [List.append_nil, List.cons_append, List.nil_append]); (with_reducible show wpAny _ _ (call (Value.ref 220) [_]) _ _ _); contradiction)
  trivial
section
theorem wordsnumber0 : True := by
  k_with "call ref" => (k_here; (try dsimp only [List.append_nil, List.cons_append, List.nil_append]); (with_reducible show wpAny _ _ (call (Value.ref 150) [Value.str _ _]) _ _ _); (rename (∀ j, _ = _ → ∀ tt, TuC _ _ _ _ 150 _ _ _ _) => rd9); k_dflt (refine' rd9 _ ?hzhj _ _ _ _ _ _ _ _ _ _ _ _ _ _ _ _ _ _ _ ?hzB ?hzF ?hzX ?hzN ?hzT ?hzck ?hzdp ?hzun ?_; (case hzhj => (unfold numEnd; simp_all; done)); (case hzB => k_asm); (case hzF => k_asm); (case hzX => k_asm); (case hzN => k_asm); (case hzT => k_asm); (case hzck => first | exact rfl | assumption); (case hzdp => ktr_room); (case hzun => ktr_units)); intro x' l' h' tk' hP' F' N' l1; (have l0 := l1); (try k_lt l1); (try k_sweep))
  trivial
set_option maxHeartbeats 8000000 in
theorem c_number (w : World) (mean : ExcName → Option Value) (mg mb : Str → Option Value) (T : Str) (hT : Short T) (k : Int) (hk : 0 ≤ k) (hm : many T k ≠ 0) (vs : List Value → Prop) (rd : ∀ j, j = numEnd T k → ∀ tt, TuC w mean mg mb 150 [.str (part T k j) tt] 12 120 vs)
    (x d : Addr) (hxd : @LT.lt Nat _ d x) (rest : List (Addr × Obj)) (ta tb tc td : Tok) (hne : ∀ p ∈ rest, p.1 ≠ d) :
    ∀ (dp un : Nat) (gd : Option (List Code)) (cn : Str) (cs : Scope) (a : Addr) (ccd : Value) (cl : List (Str × Addr)) (outer : List Env) (A₀ : Around) (base h₀ : Heap) (L : Addr) (m : Str → Option Value) (s : Shared) (Q E : Value → Shared → Prop), Below A₀ base outer h₀ → Fr h₀ L s.heap m → (hd.heap_39 w.params).In h₀ → News h₀ L s.heap ((d, dictOf [⟨PyData.keyHash w.params (Str.ofString "text"), .str (Str.ofString "text") ta, .str T tb⟩, ⟨PyData.keyHash w.params (Str.ofString "at"), .str (Str.ofString "at") tc, .int k td⟩] 2) :: (x, instObj 244 d) :: rest) → Top hd.view_39 (looseW hd.view_39 [Str.ofString "MOST_VALUE", Str.ofString "fraction"]) mean mg mb h₀ → cs.kind = .function → dp + 16 < recursionLimit → un + 160 < cLine →
    (∀ y l h' tk' td' i, i = numEnd T k → k ≤ i → vs l → Fr h₀ L h' m → News h₀ L h' ((y, ({ cls := .type "tuple", data := .seq l.toArray } : Obj)) :: (d, dictOf [⟨PyData.keyHash w.params (Str.ofString "text"), .str (Str.ofString "text") ta, .str T tb⟩, ⟨PyData.keyHash w.params (Str.ofString "at"), .str (Str.ofString "at") tc, .int i td'⟩] 2) :: (x, instObj 244 d) :: rest) → (∀ p ∈ (x, instObj 244 d) :: rest, p.1 < y) → @LT.lt Nat _ d y → Q (.ref y) { s with heap := h', toks := tk' }) →
    wpAny (model PySem.Challenge.rw_xm0729_01.row.prog w) (ktrTop dp un gd cn cs L a ccd cl outer) (call (.ref 227) [.ref x]) Q E s := by
  k_fill
  intro dp un gd cn cs a ccd cl outer A₀ base h₀ L m s Q E B F X N TT hck hdp hun hret
  have hj : JoinOn 1 T k := trivial
  refine wpAny_call ?_
  k_dflt cell_enter
  k_steps
  all_goals first
    | (rename (∀ h' tk' td' i, i = numA _ _ → _) => hq'
       refine hq' _ _ _ _ ?_ ?_ (by k_asm) (by first | k_asm | (refine cb_drop (by assumption) ?_; kcj_all))
       · (simp only [any_s] at *); unfold numA; simp_all; done
       · omega)
    | (rename (∀ h' tk' td' i n' tn', i = numC _ _ → _) => hq'
       refine hq' _ _ _ _ _ _ ?_ ?_ ?_ (by first | k_asm | exact fr_twice (by assumption)) (by first | k_asm | (refine cb_drop (by assumption) ?_; kcj_all))
       · unfold numC numB; simp_all; done
       · omega
       · unfold many numC numB; simp_all; done)
    | (refine hret _ _ _ _ _ _ ?_ ?_ (by assumption) (by k_asm) (by first | k_asm | (refine cb_drop (by assumption) ?_; kcj_all)) ?_ ?_
       · unfold numEnd; simp_all; done
       · omega
       · (rename (∀ p ∈ _, Prod.fst p < _) => l0); exact fun p hp => l0 p (by first | exact hp | exact .tail _ hp | exact .tail _ (.tail _ hp))
       · omega)

end
theorem laid11 : True := by
  k_with_none
  k_with "k_room" => ktr_room
  k_with "call builtin:len" => (k_here; (with_reducible show wpAny _ _ (call (Value.builtin "len") [Value.str _ _]) _ _ _); refine r_len (by assumption) ?_)
  k_with "subscriptTail" => (k_here; (with_reducible show wpAny _ _ (subscriptTail _ _ (Value.str _ _) (Value.int _ _)) _ _ _); refine r_item (by assumption) (by first | omega | exact Inv.nn (by assumption)) (by first | omega | (simp only [decide_eq_true_eq] at *; omega)) ?_)
  k_with "compareOp In str str" => (k_here; (with_reducible show wpAny _ _ (compareOp CmpOp.In (Value.str (one _) _) (Value.str _ _)) _ _ _); first | refine r_inB ?_ | refine r_inD ?_ | refine r_in ?_)
  k_with "subscriptTail" => (k_here; (with_reducible show wpAny _ _ (subscriptTail _ (Expr.Slice (some _) (some _) none _) (Value.str _ _) (Value.ref _)) _ _ _); (with_reducible rename Fr _ _ _ _ => F'); (with_reducible rename News _ _ _ _ => N'); (first | (refine r_pk (s := ⟨_, _, _, _, _⟩) F' N' (by assumption) (by omega) ?_) | (refine r_part (s := ⟨_, _, _, _, _⟩) F' N' (by assumption) (by omega) (by first | omega | exact Inv.le (by assumption)) ?_)); intro _ _ _ _ _)
  k_with "compareOp Eq str str" => (k_here; (with_reducible show wpAny _ _ (compareOp CmpOp.Eq (Value.str (pk _ _) _) (Value.str _ _)) _ _ _); first | refine r_eq (pk_comma _ _) ?_ | refine r_eq (pk_dot _ _) ?_ | refine r_eq (pk_none _ _) ?_)
  k_with "compareOp NotEq str str" => (k_here; (with_reducible show wpAny _ _ (compareOp CmpOp.NotEq (Value.str (pk _ _) _) (Value.str _ _)) _ _ _); first | refine r_ne (pk_comma _ _) ?_ | refine r_ne (pk_dot _ _) ?_ | refine r_ne (pk_none _ _) ?_)
  k_with "k_all" => assumption
  k_with "compareOp In str str" => (k_here; (with_reducible show wpAny _ _ (compareOp CmpOp.In (Value.str (pk _ _) _) (Value.str _ _)) _ _ _); refine r_inL (by assumption) ?_)
  k_with "ktr_room" => ((try simp only [depth_under_make, depth_under_kw, depth_in1, depth_deeper, depth_caller]); (try dsimp only [ktrTop]); first | exact roomG (by assumption) (by decide) | exact roomA (by assumption) (by decide) | exact roomZ (by assumption))
  k_with "ktr_units" => ((try simp only [units_in1, units_deeper, Around.mark_units, units_caller]); (try dsimp only [ktrTop]); first | exact roomG (by assumption) (by decide) | exact roomA (by assumption) (by decide) | exact roomZ (by assumption))
  k_with "k_ne" => (refine neN ?_; (try dsimp only); first | exact neLt (by assumption) | exact neGt (by assumption) | exact neGt (And.left (by assumption)) | exact neGt (And.left (And.right (by assumption))) | exact neGt (And.left (And.right (And.right (by assumption)))) | exact neGt (And.left (And.right (And.right (And.right (by assumption))))))
  k_with "call ref" => (k_here; (try dsimp only [List.append_nil, List.cons_append, List.nil_append]); (with_reducible show wpAny _ _ (call (Value.ref 213) [Value.ref _]) _ _ _); k_dflt (refine' sc_use (c_digits _ _ _ _ _ ?hzhT _ ?hzh0) ?hzB ?hzF ?hzX ?hzN ?hzT ?hzck ?hzhx ?hzlt ?hzU ?hzdp ?hzun ?_; (case hzB => k_asm); (case hzF => k_asm); (case hzX => k_asm); (case hzN => k_asm); (case hzT => k_asm); (case hzck => first | exact rfl | assumption); (case hzhx => k_mem); (case hzlt => assumption); (case hzU => intro i td'; k_upd); (case hzhT => first | assumption | (unfold Short; decide +kernel)); (case hzh0 => first | decide | omega); (case hzdp => ktr_room); (case hzun => ktr_units)); intro r' h' tk' td' i' hP' F' N'; obtain ⟨hr', hi', hl'⟩ := hP'; obtain ⟨t9, hr'⟩ := hr'; subst hr'; (try k_sweep))
  k_with "call ref" => (k_here; (try dsimp only [List.append_nil, List.cons_append, List.nil_append]); (with_reducible show wpAny _ _ (call (Value.ref 220) [Value.ref _]) _ _ _); k_dflt (refine' sc_use (c_expo _ _ _ _ _ ?hzhT _ ?hzh0) ?hzB ?hzF ?hzX ?hzN ?hzT ?hzck ?hzhx ?hzlt ?hzU ?hzdp ?hzun ?_; (case hzB => k_asm); (case hzF => k_asm); (case hzX => k_asm); (case hzN => k_asm); (case hzT => k_asm); (case hzck => first | exact rfl | assumption); (case hzhx => k_mem); (case hzlt => assumption); (case hzU => intro i td'; k_upd); (case hzhT => first | assumption | (unfold Short; decide +kernel)); (case hzh0 => first | decide | omega); (case hzdp => ktr_room); (case hzun => ktr_units)); intro r' h' tk' td' i' hP' F' N'; obtain ⟨hr', hi', hl'⟩ := hP'; subst hr'; (try k_sweep))
  k_with "exec If" => ((with_reducible rename JoinOn 1 _ _ => hj); k_here; (with_reducible show wpAny _ _ (exec (Stmt.If (Expr.Compare _ [CmpOp.In] _ _) _ [] _) _) _ _ _); (with_reducible rename Fr _ _ _ _ => F'); (with_reducible rename News _ _ _ _ => N'); (first | refine join1 hj F' N' ?_ ?_ | refine join1 hj F' (news_tail N') ?_ ?_); (clear hj; intro Q' hq'); rotate_left; (clear hj F' N'; intro h' tk' td' i' hj' hi' hl' F' N'))
  k_with "exec If" => ((with_reducible rename JoinOn 2 _ _ => hj); k_here; (with_reducible rename Fr _ _ _ _ => F'); (with_reducible rename News _ _ _ _ => N'); refine join2 hj F' N' ?_ ?_; (clear hj; intro Q' hq'); rotate_left; (clear hj F' N'; intro h' tk' td' i' n' tn' hi' hl' hn' F' N'; subst hn'))
  k_with "call ref" => (k_here; (with_reducible show wpAny _ _ (call (Value.ref 185) [_, _]) _ _ _); contradiction)
  k_with "call ref" => (k_here; (try dsimp only [List.append_nil, List.cons_append, List.nil_append]); (with_reducible show wpAny _ _ (call (Value.ref 220) [_]) _ _ _); contradiction)
  k_with "call ref" => (k_here; (try dsimp only [List.append_nil, List.cons_append, List.nil_append]); (with_reducible show wpAny _ _ (call (Value.ref 185) [Value.ref _, Value.str _ _]) _ _ _); k_dflt (refine' fault_use _ _ _ _ ?hzB ?hzF ?hzX ?hzN ?hzT ?hzck ?hzhx ?hzhd ?hzlt ?hzne ?hzsub ?hzdp ?hzun ?_; (case hzB => k_asm); (case hzF => k_asm); (case hzX => k_asm); (case hzN => k_asm); (case hzT => k_asm); (case hzck => first | exact rfl | assumption); (case hzhx => k_mem); (case hzhd => k_mem); (case hzlt => assumption); (case hzne => assumption); (case hzsub => exact fun p hp => by (iterate 12 (try first | exact hp | refine List.Mem.tail _ ?_))); (case hzdp => ktr_room); (case hzun => ktr_units)); intro g9 e9 dd9 h' tk' Fg9 R9 U9; k_dflt (refine' leave_onX ?hzK Fg9 R9 U9 ?_; (case hzK => k_asm)); intro h' R' U')
  trivial
section
set_option maxHeartbeats 8000000 in
theorem c_numE1 (w : World) (mean : ExcName → Option Value) (mg mb : Str → Option Value) (T : Str) (hT : Short T) (k : Int) (hk : 0 ≤ k) (hm : many T k = 0)
    (x d : Addr) (hxd : @LT.lt Nat _ d x) (rest : List (Addr × Obj)) (ta tb tc td : Tok) (hne : ∀ p ∈ rest, p.1 ≠ d) :
    ∀ (dp un : Nat) (gd : Option (List Code)) (cn : Str) (cs : Scope) (a : Addr) (ccd : Value) (cl : List (Str × Addr)) (outer : List Env) (A₀ : Around) (base h₀ : Heap) (L : Addr) (m : Str → Option Value) (s : Shared) (Q E : Value → Shared → Prop), Below A₀ base outer h₀ → Fr h₀ L s.heap m → (hd.heap_39 w.params).In h₀ → News h₀ L s.heap ((d, dictOf [⟨PyData.keyHash w.params (Str.ofString "text"), .str (Str.ofString "text") ta, .str T tb⟩, ⟨PyData.keyHash w.params (Str.ofString "at"), .str (Str.ofString "at") tc, .int k td⟩] 2) :: (x, instObj 244 d) :: rest) → Top hd.view_39 (looseW hd.view_39 [Str.ofString "MOST_VALUE", Str.ofString "fraction"]) mean mg mb h₀ → cs.kind = .function → dp + 16 < recursionLimit → un + 160 < cLine →
    (∀ g e dd h' tk', Fr h₀ L g m → RaisedX base g (envX cn cs L a ccd cl :: outer) e 70 dd rest h' → g.UpToSlots h' → E (.ref e) { s with heap := h', toks := tk' }) →
    wpAny (model PySem.Challenge.rw_xm0729_01.row.prog w) (ktrTop dp un gd cn cs L a ccd cl outer) (call (.ref 227) [.ref x]) Q E s := by
  k_fill
  intro dp un gd cn cs a ccd cl outer A₀ base h₀ L m s Q E B F X N TT hck hdp hun hret
  have hj : JoinOn 1 T k := trivial
  refine wpAny_call ?_
  k_dflt cell_enter
  k_steps
  all_goals first
    | (rename (∀ h' tk' td' i, i = numA _ _ → _) => hq'
       refine hq' _ _ _ _ ?_ ?_ (by k_asm) (by first | k_asm | (refine cb_drop (by assumption) ?_; kcj_all))
       · (simp only [any_s] at *); unfold numA; simp_all; done
       · omega)
    | (rename (∀ h' tk' td' i n' tn', i = numC _ _ → _) => hq'
       refine hq' _ _ _ _ _ _ ?_ ?_ ?_ (by first | k_asm | exact fr_twice (by assumption)) (by first | k_asm | (refine cb_drop (by assumption) ?_; kcj_all))
       · unfold numC numB; simp_all; done
       · omega
       · unfold many numC numB; simp_all; done)
    | exact hret _ _ _ _ _ (by assumption) (by assumption) (by assumption)

end
theorem laid12 : True := by
  k_with_none
  k_with "k_room" => ktr_room
  k_with "call builtin:len" => (k_here; (with_reducible show wpAny _ _ (call (Value.builtin "len") [Value.str _ _]) _ _ _); refine r_len (by assumption) ?_)
  k_with "subscriptTail" => (k_here; (with_reducible show wpAny _ _ (subscriptTail _ _ (Value.str _ _) (Value.int _ _)) _ _ _); refine r_item (by assumption) (by first | omega | exact Inv.nn (by assumption)) (by first | omega | (simp only [decide_eq_true_eq] at *; omega)) ?_)
  k_with "compareOp In str str" => (k_here; (with_reducible show wpAny _ _ (compareOp CmpOp.In (Value.str (one _) _) (Value.str _ _)) _ _ _); first | refine r_inB ?_ | refine r_inD ?_ | refine r_in ?_)
  k_with "subscriptTail" => (k_here; (with_reducible show wpAny _ _ (subscriptTail _ (Expr.Slice (some _) (some _) none _) (Value.str _ _) (Value.ref _)) _ _ _); (with_reducible rename Fr _ _ _ _ => F'); (with_reducible rename News _ _ _ _ => N'); (first | (refine r_pk (s := ⟨_, _, _, _, _⟩) F' N' (by assumption) (by omega) ?_) | (refine r_part (s := ⟨_, _, _, _, _⟩) F' N' (by assumption) (by omega) (by first | omega | exact Inv.le (by assumption)) ?_)); intro _ _ _ _ _)
  k_with "compareOp Eq str str" => (k_here; (with_reducible show wpAny _ _ (compareOp CmpOp.Eq (Value.str (pk _ _) _) (Value.str _ _)) _ _ _); first | refine r_eq (pk_comma _ _) ?_ | refine r_eq (pk_dot _ _) ?_ | refine r_eq (pk_none _ _) ?_)
  k_with "compareOp NotEq str str" => (k_here; (with_reducible show wpAny _ _ (compareOp CmpOp.NotEq (Value.str (pk _ _) _) (Value.str _ _)) _ _ _); first | refine r_ne (pk_comma _ _) ?_ | refine r_ne (pk_dot _ _) ?_ | refine r_ne (pk_none _ _) ?_)
  k_with "k_all" => assumption
  k_with "compareOp In str str" => (k_here; (with_reducible show wpAny _ _ (compareOp CmpOp.In (Value.str (pk _ _) _) (Value.str _ _)) _ _ _); refine r_inL (by assumption) ?_)
  k_with "ktr_room" => ((try simp only [depth_under_make, depth_under_kw, depth_in1, depth_deeper, depth_caller]); (try dsimp only [ktrTop]); first | exact roomG (by assumption) (by decide) | exact roomA (by assumption) (by decide) | exact roomZ (by assumption))
  k_with "ktr_units" => ((try simp only [units_in1, units_deeper, Around.mark_units, units_caller]); (try dsimp only [ktrTop]); first | exact roomG (by assumption) (by decide) | exact roomA (by assumption) (by decide) | exact roomZ (by assumption))
  k_with "k_ne" => (refine neN ?_; (try dsimp only); first | exact neLt (by assumption) | exact neGt (by assumption) | exact neGt (And.left (by assumption)) | exact neGt (And.left (And.right (by assumption))) | exact neGt (And.left (And.right (And.right (by assumption)))) | exact neGt (And.left (And.right (And.right (And.right (by assumption))))))
  k_with "binaryOp Mod int int" => (k_here; refine r_mod (by omega) ?_; intro r9 hr9 hs9)
  k_with "binaryOp FloorDiv int int" => (k_here; refine r_div (by omega) (by omega) (by omega) ?_; intro r9 hr9 hs9)
  k_with "binaryOp Mult int int" => (k_here; refine r_mul (by omega) (by omega) (by omega) ?_; intro r9 hr9)
  k_with "subscriptTail Name Constant ref int" => (k_here; (with_reducible show wpAny _ _ (subscriptTail _ _ (Value.ref _) (Value.int _ _)) _ _ _); k_dflt (refine' r_li ?hzN ?hzm ?hza ?hzb ?hzx ?_; (case hzN => k_asm); (case hzm => k_mem); (case hza => decide); (case hzb => decide); (case hzx => rfl)))
  trivial
section
set_option maxHeartbeats 8000000 in
theorem c_take (w : World) (mean : ExcName → Option Value) (mg mb : Str → Option Value) (l : Addr) (top : Int) (tt : Tok) (ht : 1 ≤ top) (ht2 : top ≤ 10) : SrcC w mean mg mb 267 l [.int top tt] 4 60 [] (fun v => ∃ r t, v = .int r t ∧ 0 ≤ r ∧ r < top) := by
  unfold SrcC
  k_fill
  intro rest a1 b1 ta tb n hne hneed ha hb hb2 dp un gd cn cs a ccd cl outer A₀ base h₀ L m s Q E B F X N TT hck hdp hun hret
  refine wpAny_call ?_
  k_dflt cell_enter
  k_steps
  all_goals (refine hret _ _ _ _ _ _ _ _ ⟨_, _, rfl, ?_, ?_⟩ ?_ ?_ ?_ (by k_asm) (by k_asm) <;> omega)

end
theorem laid13 : True := by
  k_with "call ref" => (k_here; (try dsimp only [List.append_nil, List.cons_append, List.nil_append]); (with_reducible show wpAny _ _ (call (Value.ref 267) [Value.ref _, Value.int _ _]) _ _ _); k_dflt (refine' src_use (c_take _ _ _ _ _ _ _ ?hzht ?hzht2) ?hzB ?hzF ?hzX ?hzN ?hzT ?hzck ?hzU ?hzha ?hzhb ?hzhb2 ?hzneed ?hzdp ?hzun ?_; (case hzB => k_asm); (case hzF => k_asm); (case hzX => k_asm); (case hzN => k_asm); (case hzT => k_asm); (case hzck => first | exact rfl | assumption); (case hzU => intro a2 t2 b2 t3 n2; k_upd); (case hzneed => exact fun _ h => nomatch h); (case hzht => omega); (case hzht2 => omega); (case hzha => first | assumption | omega); (case hzhb => first | assumption | omega); (case hzhb2 => first | assumption | omega); (case hzdp => ktr_room); (case hzun => ktr_units)); intro r' a2 t2 b2 t3 n2 h' tk' hP' ha2 hb2 hb3 F' N'; obtain ⟨r9, t9, hr', hr9, hs9⟩ := hP'; subst hr'; (try k_sweep))
  trivial
section
theorem r_llen {prog : Program} {w : World} {A : Around} {E : Value → Shared → Prop} {s : Shared} {Q : Value → Shared → Prop} {h₀ : Heap} {L l : Addr} {news : List (Addr × Obj)} {vs : List Value} {n : Nat} (N : News h₀ L s.heap news) (hm : (l, listOf vs.toArray n) ∈ news) (hz : vs.length ≤ 4096)
    (h : Q (.int vs.length (s.toks + 1)) { s with toks := s.toks + 1 + 1 }) : wpAny (model prog w) A (call (.builtin "len") [.ref l]) Q E s :=
  len_list (News.isList N hm) (by rw [List.size_toArray]; omega) (by rw [List.size_toArray]; exact h)
theorem one_at {vs : List Value} {r : Int} (h0 : 0 ≤ r) (h1 : r < vs.length) : ∃ v, vs[r.toNat]? = some v := ⟨vs[r.toNat]'(by omega), by simp⟩
theorem news_dup {h₀ h : Heap} {L : Addr} {p q : Addr × Obj} {rest : List (Addr × Obj)} (N : News h₀ L h (p :: rest)) (hq : q ∈ rest) : News h₀ L h (p :: q :: rest) := fun z hz => N z (by
  rcases List.mem_cons.mp hz with rfl | hz
  · exact .head _
  · rcases List.mem_cons.mp hz with rfl | hz
    · exact .tail _ hq
    · exact .tail _ hz)
theorem news_undup {h₀ h : Heap} {L : Addr} {p q : Addr × Obj} {rest : List (Addr × Obj)} (N : News h₀ L h (p :: q :: rest)) : News h₀ L h (p :: rest) := fun z hz => N z (by
  rcases List.mem_cons.mp hz with rfl | hz
  · exact .head _
  · exact .tail _ (.tail _ hz))
theorem wordsone0 : True := by
  k_with "call builtin:len" => (k_here; (with_reducible show wpAny _ _ (call (Value.builtin "len") [Value.ref _]) _ _ _); k_dflt (refine' r_llen ?hzN ?hzm ?hzz ?_; (case hzN => k_asm); (case hzm => k_mem); (case hzz => omega)))
  k_with "subscriptTail" => (k_here; (with_reducible show wpAny _ _ (subscriptTail _ _ (Value.ref _) (Value.int _ _)) _ _ _); (obtain ⟨v9, hv9⟩ := one_at (by assumption) (by assumption)); k_dflt (refine' r_li ?hzN ?hzm ?hza ?hzb ?hzx ?_; (case hzN => k_asm); (case hzm => k_mem); (case hza => omega); (case hzb => omega); (case hzx => exact hv9)))
  trivial
set_option maxHeartbeats 8000000 in
theorem c_one (w : World) (mean : ExcName → Option Value) (mg mb : Str → Option Value) (l lt : Addr) (vs : List Value) (nt : Nat) (h1 : 1 ≤ vs.length) (h2 : vs.length ≤ 10) : SrcC w mean mg mb 274 l [.ref lt] 8 100 [(lt, listOf vs.toArray nt)] (fun v => ∃ i : Nat, i < vs.length ∧ vs[i]? = some v) := by
  unfold SrcC
  k_fill
  intro rest a1 b1 ta tb n hne hneed ha hb hb2 dp un gd cn cs a ccd cl outer A₀ base h₀ L m s Q E B F X N TT hck hdp hun hret
  have hlt : (lt, listOf vs.toArray nt) ∈ rest := hneed _ (.head _)
  have hlne : @Ne Nat lt l := hne _ hlt
  replace N := news_dup N hlt
  refine wpAny_call ?_
  k_dflt cell_enter
  k_steps
  all_goals (refine hret _ _ _ _ _ _ _ _ ⟨_, ?_, by assumption⟩ ?_ ?_ ?_ (by k_asm) (news_undup (by k_asm)) <;> first | assumption | omega)

end
theorem laid14 : True := by
  k_with_none
  k_with "k_room" => ktr_room
  k_with "call builtin:len" => (k_here; (with_reducible show wpAny _ _ (call (Value.builtin "len") [Value.str _ _]) _ _ _); refine r_len (by assumption) ?_)
  k_with "subscriptTail" => (k_here; (with_reducible show wpAny _ _ (subscriptTail _ _ (Value.str _ _) (Value.int _ _)) _ _ _); refine r_item (by assumption) (by first | omega | exact Inv.nn (by assumption)) (by first | omega | (simp only [decide_eq_true_eq] at *; omega)) ?_)
  k_with "compareOp In str str" => (k_here; (with_reducible show wpAny _ _ (compareOp CmpOp.In (Value.str (one _) _) (Value.str _ _)) _ _ _); first | refine r_inB ?_ | refine r_inD ?_ | refine r_in ?_)
  k_with "subscriptTail" => (k_here; (with_reducible show wpAny _ _ (subscriptTail _ (Expr.Slice (some _) (some _) none _) (Value.str _ _) (Value.ref _)) _ _ _); (with_reducible rename Fr _ _ _ _ => F'); (with_reducible rename News _ _ _ _ => N'); (first | (refine r_pk (s := ⟨_, _, _, _, _⟩) F' N' (by assumption) (by omega) ?_) | (refine r_part (s := ⟨_, _, _, _, _⟩) F' N' (by assumption) (by omega) (by first | omega | exact Inv.le (by assumption)) ?_)); intro _ _ _ _ _)
  k_with "compareOp Eq str str" => (k_here; (with_reducible show wpAny _ _ (compareOp CmpOp.Eq (Value.str (pk _ _) _) (Value.str _ _)) _ _ _); first | refine r_eq (pk_comma _ _) ?_ | refine r_eq (pk_dot _ _) ?_ | refine r_eq (pk_none _ _) ?_)
  k_with "compareOp NotEq str str" => (k_here; (with_reducible show wpAny _ _ (compareOp CmpOp.NotEq (Value.str (pk _ _) _) (Value.str _ _)) _ _ _); first | refine r_ne (pk_comma _ _) ?_ | refine r_ne (pk_dot _ _) ?_ | refine r_ne (pk_none _ _) ?_)
  k_with "k_all" => assumption
  k_with "compareOp In str str" => (k_here; (with_reducible show wpAny _ _ (compareOp CmpOp.In (Value.str (pk _ _) _) (Value.str _ _)) _ _ _); refine r_inL (by assumption) ?_)
  k_with "ktr_room" => ((try simp only [depth_under_make, depth_under_kw, depth_in1, depth_deeper, depth_caller]); (try dsimp only [ktrTop]); first | exact roomG (by assumption) (by decide) | exact roomA (by assumption) (by decide) | exact roomZ (by assumption))
  k_with "ktr_units" => ((try simp only [units_in1, units_deeper, Around.mark_units, units_caller]); (try dsimp only [ktrTop]); first | exact roomG (by assumption) (by decide) | exact roomA (by assumption) (by decide) | exact roomZ (by assumption))
  k_with "k_ne" => (refine neN ?_; (try dsimp only); first | exact neLt (by assumption) | exact neGt (by assumption) | exact neGt (And.left (by assumption)) | exact neGt (And.left (And.right (by assumption))) | exact neGt (And.left (And.right (And.right (by assumption)))) | exact neGt (And.left (And.right (And.right (And.right (by assumption))))))
  k_with "binaryOp Mod int int" => (k_here; refine r_mod (by omega) ?_; intro r9 hr9 hs9)
  k_with "binaryOp FloorDiv int int" => (k_here; refine r_div (by omega) (by omega) (by omega) ?_; intro r9 hr9 hs9)
  k_with "binaryOp Mult int int" => (k_here; refine r_mul (by omega) (by omega) (by omega) ?_; intro r9 hr9)
  k_with "subscriptTail Name Constant ref int" => (k_here; (with_reducible show wpAny _ _ (subscriptTail _ _ (Value.ref _) (Value.int _ _)) _ _ _); k_dflt (refine' r_li ?hzN ?hzm ?hza ?hzb ?hzx ?_; (case hzN => k_asm); (case hzm => k_mem); (case hza => decide); (case hzb => decide); (case hzx => rfl)))
  k_with "call ref" => (k_here; (try dsimp only [List.append_nil, List.cons_append, List.nil_append]); (with_reducible show wpAny _ _ (call (Value.ref 267) [Value.ref _, Value.int _ _]) _ _ _); k_dflt (refine' src_use (c_take _ _ _ _ _ _ _ ?hzht ?hzht2) ?hzB ?hzF ?hzX ?hzN ?hzT ?hzck ?hzU ?hzha ?hzhb ?hzhb2 ?hzneed ?hzdp ?hzun ?_; (case hzB => k_asm); (case hzF => k_asm); (case hzX => k_asm); (case hzN => k_asm); (case hzT => k_asm); (case hzck => first | exact rfl | assumption); (case hzU => intro a2 t2 b2 t3 n2; k_upd); (case hzneed => exact fun _ h => nomatch h); (case hzht => omega); (case hzht2 => omega); (case hzha => first | assumption | omega); (case hzhb => first | assumption | omega); (case hzhb2 => first | assumption | omega); (case hzdp => ktr_room); (case hzun => ktr_units)); intro r' a2 t2 b2 t3 n2 h' tk' hP' ha2 hb2 hb3 F' N'; obtain ⟨r9, t9, hr', hr9, hs9⟩ := hP'; subst hr'; (try k_sweep))
  k_with "call ref" => (k_here; (try dsimp only [List.append_nil, List.cons_append, List.nil_append]); (with_reducible show wpAny _ _ (call (Value.ref 274) [Value.ref _, Value.ref _]) _ _ _); k_dflt (refine' src_use (c_one _ _ _ _ _ _ _ _ ?hzh1 ?hzh2) ?hzB ?hzF ?hzX ?hzN ?hzT ?hzck ?hzU ?hzha ?hzhb ?hzhb2 ?hzneed ?hzdp ?hzun ?_; (case hzB => k_asm); (case hzF => k_asm); (case hzX => k_asm); (case hzN => k_asm); (case hzT => k_asm); (case hzck => first | exact rfl | assumption); (case hzU => intro a2 t2 b2 t3 n2; k_upd); (case hzneed => (intro p hp; rw [List.mem_singleton.mp hp]; exact ⟨by k_mem, by k_ne⟩)); (case hzh1 => first | decide | (simp; done)); (case hzh2 => first | decide | (simp; done)); (case hzha => first | assumption | omega); (case hzhb => first | assumption | omega); (case hzhb2 => first | assumption | omega); (case hzdp => ktr_room); (case hzun => ktr_units)); intro r' a2 t2 b2 t3 n2 h' tk' hP' ha2 hb2 hb3 F' N'; obtain ⟨i9, hi9, hv9⟩ := hP'; (try k_sweep))
  trivial
section
set_option maxHeartbeats 8000000 in
theorem c_spelled (w : World) (mean : ExcName → Option Value) (mg mb : Str → Option Value) (l : Addr) (rest : List (Addr × Obj)) (a1 b1 : Int) (ta tb : Tok) (n : Nat) (hne : ∀ p ∈ rest, p.1 ≠ l) (ha : 0 ≤ a1) (hb : 0 ≤ b1) (hb2 : b1 < 2147483647) :
    ∀ (dp un : Nat) (gd : Option (List Code)) (cn : Str) (cs : Scope) (a : Addr) (ccd : Value) (cl : List (Str × Addr)) (outer : List Env) (A₀ : Around) (base h₀ : Heap) (L : Addr) (m : Str → Option Value) (s : Shared) (Q E : Value → Shared → Prop), Below A₀ base outer h₀ → Fr h₀ L s.heap m → (hd.heap_39 w.params).In h₀ → News h₀ L s.heap ((l, listOf #[.int a1 ta, .int b1 tb] n) :: rest) → Top hd.view_39 (looseW hd.view_39 [Str.ofString "MOST_VALUE", Str.ofString "fraction"]) mean mg mb h₀ → cs.kind = .function → dp + 12 < recursionLimit → un + 140 < cLine → 
    (∀ i y z tw tp tq a2 t2 b2 t3 n2 h' tk', i < 9 → 0 ≤ a2 → 0 ≤ b2 → b2 < 2147483647 → Fr h₀ L h' m →
      News h₀ L h' ((y, ({ cls := .type "tuple", data := .seq #[.str (wdS i) tw, .ref z] } : Obj)) :: (z, ({ cls := .type "tuple", data := .seq #[.int (wdN i).1 tp, .int (wdN i).2 tq] } : Obj)) :: (l, listOf #[.int a2 t2, .int b2 t3] n2) :: rest) →
      (∀ p ∈ rest, p.1 < y ∧ p.1 < z) → @LT.lt Nat _ l z → @LT.lt Nat _ z y → Q (.ref y) { s with heap := h', toks := tk' }) →
    wpAny (model PySem.Challenge.rw_xm0729_01.row.prog w) (ktrTop dp un gd cn cs L a ccd cl outer) (call (.ref 281) [.ref l]) Q E s := by
  k_fill
  intro dp un gd cn cs a ccd cl outer A₀ base h₀ L m s Q E B F X N TT hck hdp hun hret
  refine wpAny_call ?_
  k_dflt cell_enter
  k_steps
  (rename (_ < List.length _) => hi9); (rename (_[_]? = some _) => hv9)
  have hi8 : _ < 9 := hi9
  have h0 := nine hi8 hv9
  rcases h0 with ⟨e1, e2⟩ | ⟨e1, e2⟩ | ⟨e1, e2⟩ | ⟨e1, e2⟩ | ⟨e1, e2⟩ | ⟨e1, e2⟩ | ⟨e1, e2⟩ | ⟨e1, e2⟩ | ⟨e1, e2⟩
  · subst e1 e2
    have hr := hret 0
    simp only [show wdS 0 = Str.ofString "0" from rfl, show wdN 0 = (0, 1) from rfl] at hr
    refine hr _ _ _ _ _ _ _ _ _ _ _ _ (by decide) ?_ ?_ ?_ (by k_asm) (cb_drop (by assumption) (List.forall_mem_cons.mpr ⟨by k_mem, List.forall_mem_cons.mpr ⟨by k_mem, List.forall_mem_cons.mpr ⟨by k_mem, fun p hp => by (repeat (first | exact hp | refine List.Mem.tail _ ?_))⟩⟩⟩)) (fun p hp => ⟨ktn_ltOf (by simp only [*]) p hp, ktn_ltOf (by simp only [*]) p hp⟩) ?_ ?_ <;> first | assumption | omega
  · subst e1 e2
    have hr := hret 1
    simp only [show wdS 1 = Str.ofString "12" from rfl, show wdN 1 = (12, 1) from rfl] at hr
    refine hr _ _ _ _ _ _ _ _ _ _ _ _ (by decide) ?_ ?_ ?_ (by k_asm) (cb_drop (by assumption) (List.forall_mem_cons.mpr ⟨by k_mem, List.forall_mem_cons.mpr ⟨by k_mem, List.forall_mem_cons.mpr ⟨by k_mem, fun p hp => by (repeat (first | exact hp | refine List.Mem.tail _ ?_))⟩⟩⟩)) (fun p hp => ⟨ktn_ltOf (by simp only [*]) p hp, ktn_ltOf (by simp only [*]) p hp⟩) ?_ ?_ <;> first | assumption | omega
  · subst e1 e2
    have hr := hret 2
    simp only [show wdS 2 = Str.ofString "-2.5" from rfl, show wdN 2 = (-5, 2) from rfl] at hr
    refine hr _ _ _ _ _ _ _ _ _ _ _ _ (by decide) ?_ ?_ ?_ (by k_asm) (cb_drop (by assumption) (List.forall_mem_cons.mpr ⟨by k_mem, List.forall_mem_cons.mpr ⟨by k_mem, List.forall_mem_cons.mpr ⟨by k_mem, fun p hp => by (repeat (first | exact hp | refine List.Mem.tail _ ?_))⟩⟩⟩)) (fun p hp => ⟨ktn_ltOf (by simp only [*]) p hp, ktn_ltOf (by simp only [*]) p hp⟩) ?_ ?_ <;> first | assumption | omega
  · subst e1 e2
    have hr := hret 3
    simp only [show wdS 3 = Str.ofString ".5" from rfl, show wdN 3 = (1, 2) from rfl] at hr
    refine hr _ _ _ _ _ _ _ _ _ _ _ _ (by decide) ?_ ?_ ?_ (by k_asm) (cb_drop (by assumption) (List.forall_mem_cons.mpr ⟨by k_mem, List.forall_mem_cons.mpr ⟨by k_mem, List.forall_mem_cons.mpr ⟨by k_mem, fun p hp => by (repeat (first | exact hp | refine List.Mem.tail _ ?_))⟩⟩⟩)) (fun p hp => ⟨ktn_ltOf (by simp only [*]) p hp, ktn_ltOf (by simp only [*]) p hp⟩) ?_ ?_ <;> first | assumption | omega
  · subst e1 e2
    have hr := hret 4
    simp only [show wdS 4 = Str.ofString "+3" from rfl, show wdN 4 = (3, 1) from rfl] at hr
    refine hr _ _ _ _ _ _ _ _ _ _ _ _ (by decide) ?_ ?_ ?_ (by k_asm) (cb_drop (by assumption) (List.forall_mem_cons.mpr ⟨by k_mem, List.forall_mem_cons.mpr ⟨by k_mem, List.forall_mem_cons.mpr ⟨by k_mem, fun p hp => by (repeat (first | exact hp | refine List.Mem.tail _ ?_))⟩⟩⟩)) (fun p hp => ⟨ktn_ltOf (by simp only [*]) p hp, ktn_ltOf (by simp only [*]) p hp⟩) ?_ ?_ <;> first | assumption | omega
  · subst e1 e2
    have hr := hret 5
    simp only [show wdS 5 = Str.ofString "1e2" from rfl, show wdN 5 = (100, 1) from rfl] at hr
    refine hr _ _ _ _ _ _ _ _ _ _ _ _ (by decide) ?_ ?_ ?_ (by k_asm) (cb_drop (by assumption) (List.forall_mem_cons.mpr ⟨by k_mem, List.forall_mem_cons.mpr ⟨by k_mem, List.forall_mem_cons.mpr ⟨by k_mem, fun p hp => by (repeat (first | exact hp | refine List.Mem.tail _ ?_))⟩⟩⟩)) (fun p hp => ⟨ktn_ltOf (by simp only [*]) p hp, ktn_ltOf (by simp only [*]) p hp⟩) ?_ ?_ <;> first | assumption | omega
  · subst e1 e2
    have hr := hret 6
    simp only [show wdS 6 = Str.ofString "4." from rfl, show wdN 6 = (4, 1) from rfl] at hr
    refine hr _ _ _ _ _ _ _ _ _ _ _ _ (by decide) ?_ ?_ ?_ (by k_asm) (cb_drop (by assumption) (List.forall_mem_cons.mpr ⟨by k_mem, List.forall_mem_cons.mpr ⟨by k_mem, List.forall_mem_cons.mpr ⟨by k_mem, fun p hp => by (repeat (first | exact hp | refine List.Mem.tail _ ?_))⟩⟩⟩)) (fun p hp => ⟨ktn_ltOf (by simp only [*]) p hp, ktn_ltOf (by simp only [*]) p hp⟩) ?_ ?_ <;> first | assumption | omega
  · subst e1 e2
    have hr := hret 7
    simp only [show wdS 7 = Str.ofString "-.25" from rfl, show wdN 7 = (-1, 4) from rfl] at hr
    refine hr _ _ _ _ _ _ _ _ _ _ _ _ (by decide) ?_ ?_ ?_ (by k_asm) (cb_drop (by assumption) (List.forall_mem_cons.mpr ⟨by k_mem, List.forall_mem_cons.mpr ⟨by k_mem, List.forall_mem_cons.mpr ⟨by k_mem, fun p hp => by (repeat (first | exact hp | refine List.Mem.tail _ ?_))⟩⟩⟩)) (fun p hp => ⟨ktn_ltOf (by simp only [*]) p hp, ktn_ltOf (by simp only [*]) p hp⟩) ?_ ?_ <;> first | assumption | omega
  · subst e1 e2
    have hr := hret 8
    simp only [show wdS 8 = Str.ofString "5E-1" from rfl, show wdN 8 = (1, 2) from rfl] at hr
    refine hr _ _ _ _ _ _ _ _ _ _ _ _ (by decide) ?_ ?_ ?_ (by k_asm) (cb_drop (by assumption) (List.forall_mem_cons.mpr ⟨by k_mem, List.forall_mem_cons.mpr ⟨by k_mem, List.forall_mem_cons.mpr ⟨by k_mem, fun p hp => by (repeat (first | exact hp | refine List.Mem.tail _ ?_))⟩⟩⟩)) (fun p hp => ⟨ktn_ltOf (by simp only [*]) p hp, ktn_ltOf (by simp only [*]) p hp⟩) ?_ ?_ <;> first | assumption | omega

end
theorem laid15 : True := by
  k_with_none
  k_with "k_room" => ktr_room
  k_with "call builtin:len" => (k_here; (with_reducible show wpAny _ _ (call (Value.builtin "len") [Value.str _ _]) _ _ _); refine r_len (by assumption) ?_)
  k_with "subscriptTail" => (k_here; (with_reducible show wpAny _ _ (subscriptTail _ _ (Value.str _ _) (Value.int _ _)) _ _ _); refine r_item (by assumption) (by first | omega | exact Inv.nn (by assumption)) (by first | omega | (simp only [decide_eq_true_eq] at *; omega)) ?_)
  k_with "compareOp In str str" => (k_here; (with_reducible show wpAny _ _ (compareOp CmpOp.In (Value.str (one _) _) (Value.str _ _)) _ _ _); first | refine r_inB ?_ | refine r_inD ?_ | refine r_in ?_)
  k_with "subscriptTail" => (k_here; (with_reducible show wpAny _ _ (subscriptTail _ (Expr.Slice (some _) (some _) none _) (Value.str _ _) (Value.ref _)) _ _ _); (with_reducible rename Fr _ _ _ _ => F'); (with_reducible rename News _ _ _ _ => N'); (first | (refine r_pk (s := ⟨_, _, _, _, _⟩) F' N' (by assumption) (by omega) ?_) | (refine r_part (s := ⟨_, _, _, _, _⟩) F' N' (by assumption) (by omega) (by first | omega | exact Inv.le (by assumption)) ?_)); intro _ _ _ _ _)
  k_with "compareOp Eq str str" => (k_here; (with_reducible show wpAny _ _ (compareOp CmpOp.Eq (Value.str (pk _ _) _) (Value.str _ _)) _ _ _); first | refine r_eq (pk_comma _ _) ?_ | refine r_eq (pk_dot _ _) ?_ | refine r_eq (pk_none _ _) ?_)
  k_with "compareOp NotEq str str" => (k_here; (with_reducible show wpAny _ _ (compareOp CmpOp.NotEq (Value.str (pk _ _) _) (Value.str _ _)) _ _ _); first | refine r_ne (pk_comma _ _) ?_ | refine r_ne (pk_dot _ _) ?_ | refine r_ne (pk_none _ _) ?_)
  k_with "k_all" => assumption
  k_with "compareOp In str str" => (k_here; (with_reducible show wpAny _ _ (compareOp CmpOp.In (Value.str (pk _ _) _) (Value.str _ _)) _ _ _); refine r_inL (by assumption) ?_)
  k_with "ktr_room" => ((try simp only [depth_under_make, depth_under_kw, depth_in1, depth_deeper, depth_caller]); (try dsimp only [ktrTop]); first | exact roomG (by assumption) (by decide) | exact roomA (by assumption) (by decide) | exact roomZ (by assumption))
  k_with "ktr_units" => ((try simp only [units_in1, units_deeper, Around.mark_units, units_caller]); (try dsimp only [ktrTop]); first | exact roomG (by assumption) (by decide) | exact roomA (by assumption) (by decide) | exact roomZ (by assumption))
  k_with "k_ne" => (refine neN ?_; (try dsimp only); first | exact neLt (by assumption) | exact neGt (by assumption) | exact neGt (And.left (by assumption)) | exact neGt (And.left (And.right (by assumption))) | exact neGt (And.left (And.right (And.right (by assumption)))) | exact neGt (And.left (And.right (And.right (And.right (by assumption))))))
  trivial
section
/-- what _law_is_apart says -/
def apartB (A G : Str) : Bool := (!(Builtin.Str.occurrences (Str.ofString "+-") (Txt.item G 0) 0 (Str.ofString "+-").length 1).isEmpty) || ((Txt.item G 0 == Str.ofString ".") && ((!(Builtin.Str.occurrences A (Str.ofString ".") 0 A.length 1).isEmpty) || (!(Builtin.Str.occurrences (Txt.lower A) (Str.ofString "e") 0 (Txt.lower A).length 1).isEmpty)))
set_option maxHeartbeats 8000000 in
theorem c_apart (w : World) (mean : ExcName → Option Value) (mg mb : Str → Option Value) (A G : Str) (ta tb : Tok) (hA : A.length ≤ 64) (hB : Short G) (h1 : 1 ≤ G.length) : FnC w mean mg mb 288 [.str A ta, .str G tb] 3 40 (fun r => r = .bool (apartB A G)) := by
  unfold FnC
  k_fill
  intro news dp un gd cn cs a ccd cl outer A₀ base h₀ L m s Q E B F X N TT hck hdp hun hret
  refine wpAny_call ?_
  k_dflt cell_enter
  k_steps
  all_goals (refine hret _ _ _ ?_ (by k_asm) (by k_asm); refine congrArg Value.bool ?_; unfold apartB; simp [*])

end
theorem laid16 : True := by
  k_with_none
  k_with "k_room" => ktr_room
  k_with "k_all" => assumption
  k_with "exec If" => ((with_reducible rename JoinRd 1 _ => hj); k_here; (with_reducible rename Fr _ _ _ _ => F'); (with_reducible rename News _ _ _ _ => N'); refine joinRd1 hj F' N' ?_ ?_; (clear hj; intro Q' hq'); rotate_left; (clear hj F' N'; intro h' tk' td' tn' F' N'))
  k_with "ite" => first | refine ite_neg (by omega) ?_ | refine ite_pos (by omega) ?_
  k_with "call ref" => (k_here; (try dsimp only [List.append_nil, List.cons_append, List.nil_append]); (with_reducible show wpAny _ _ (call (Value.ref 115) [Value.ref _, Value.str _ _]) _ _ _); k_dflt (refine' sc_use (c_nskip _ _ _ _ _ ?hzhT _ ?hzh0 _ _) ?hzB ?hzF ?hzX ?hzN ?hzT ?hzck ?hzhx ?hzlt ?hzU ?hzdp ?hzun ?_; (case hzB => k_asm); (case hzF => k_asm); (case hzX => k_asm); (case hzN => k_asm); (case hzT => k_asm); (case hzck => first | exact rfl | assumption); (case hzhx => k_mem); (case hzlt => assumption); (case hzU => intro i td'; k_upd); (case hzhT => assumption); (case hzh0 => first | with_reducible exact rB_nn _ | with_reducible exact xA_nn (by assumption) | with_reducible assumption | decide); (case hzdp => ktr_room); (case hzun => ktr_units)); intro r' h' tk' td' i' hP' F' N'; obtain ⟨⟨t9, hr'⟩, hi'⟩ := hP'; subst hr'; (first | rw [rA_def] at hi' | rw [rD_def] at hi' | rw [xB_def] at hi' | rw [xA_def] at hi'); subst hi'; (try k_sweep))
  k_with "call ref" => (k_here; (try dsimp only [List.append_nil, List.cons_append, List.nil_append]); (with_reducible show wpAny _ _ (call (Value.ref 122) [Value.ref _]) _ _ _); k_dflt (refine' sc_use (c_ndigits _ _ _ _ _ ?hzhT _ ?hzh0) ?hzB ?hzF ?hzX ?hzN ?hzT ?hzck ?hzhx ?hzlt ?hzU ?hzdp ?hzun ?_; (case hzB => k_asm); (case hzF => k_asm); (case hzX => k_asm); (case hzN => k_asm); (case hzT => k_asm); (case hzck => first | exact rfl | assumption); (case hzhx => k_mem); (case hzlt => assumption); (case hzU => intro i td'; k_upd); (case hzhT => assumption); (case hzh0 => first | with_reducible exact rA_nn _ | with_reducible exact rD_nn _ | with_reducible exact xB_nn (by assumption)); (case hzdp => ktr_room); (case hzun => ktr_units)); intro r' h' tk' td' i' hP' F' N'; obtain ⟨⟨t9, hr'⟩, hi', hl'⟩ := hP'; clear hl'; (first | rw [rB_def] at hi' | rw [xC_def] at hi' | skip); subst hi'; subst hr'; (try k_sweep))
  k_with "call ref" => (k_here; (try dsimp only [List.append_nil, List.cons_append, List.nil_append]); (with_reducible show wpAny _ _ (call (Value.ref 136) [Value.str _ _]) _ _ _); k_dflt (refine' c_wholeG _ _ _ _ _ ?hzhS ?hzhD _ _ _ _ _ _ _ _ _ _ _ _ _ _ _ _ _ _ _ ?hzB ?hzF ?hzX ?hzN ?hzT ?hzck ?hzdp ?hzun ?_; (case hzhS => (unfold Short; omega)); (case hzhD => assumption); (case hzB => k_asm); (case hzF => k_asm); (case hzX => k_asm); (case hzN => k_asm); (case hzT => k_asm); (case hzck => first | exact rfl | assumption); (case hzdp => ktr_room); (case hzun => ktr_units)); intro r' h' tk' hP' F' N'; obtain ⟨t9, hr'⟩ := hP'; rw [show wholeL _ = _ from by assumption] at hr'; subst hr'; (try k_sweep))
  k_with "call builtin:len" => (k_here; (with_reducible show wpAny _ _ (call (Value.builtin "len") [Value.str _ _]) _ _ _); refine r_glen (by first | assumption | omega) ?_)
  k_with "compareOp Eq str str" => (k_here; (with_reducible show wpAny _ _ (compareOp CmpOp.Eq (Value.str _ _) (Value.str _ _)) _ _ _); first | refine r_geq (b := false) (by assumption) ?_ | refine r_geq (b := true) (by assumption) ?_ | refine r_geq rfl ?_)
  k_with "compareOp NotEq str str" => (k_here; (with_reducible show wpAny _ _ (compareOp CmpOp.NotEq (Value.str _ _) (Value.str _ _)) _ _ _); refine r_gne rfl ?_)
  k_with "binaryOp Add str str" => (k_here; (with_reducible show wpAny _ _ (binaryOp Operator.Add (Value.str _ _) (Value.str _ _)) _ _ _); k_dflt (refine' add_str ?_ ?hzz; (case hzz => (simp only [sizeLine_eq]; omega)); intro _ _))
  k_with "call ref" => (k_here; (try dsimp only [List.append_nil, List.cons_append, List.nil_append]); (with_reducible show wpAny _ _ (call (Value.ref 143) [Value.ref _]) _ _ _); (with_reducible rename ObC _ _ _ _ _ 143 _ _ _ _ _ _ => re9); k_dflt (refine' sc_use re9 ?hzB ?hzF ?hzX ?hzN ?hzT ?hzck ?hzhx ?hzlt ?hzU ?hzdp ?hzun ?_; (case hzB => k_asm); (case hzF => k_asm); (case hzX => k_asm); (case hzN => k_asm); (case hzT => k_asm); (case hzck => first | exact rfl | assumption); (case hzhx => k_mem); (case hzlt => assumption); (case hzU => intro i td'; k_upd); (case hzdp => ktr_room); (case hzun => ktr_units)); intro r' h' tk' td' i' hP' F' N'; obtain ⟨⟨t9, hr'⟩, hi'⟩ := hP'; subst hr'; subst hi'; (try k_sweep))
  k_with "call builtin:max" => (k_here; (with_reducible rename Fr _ _ _ _ => F'); (with_reducible rename News _ _ _ _ => N'); k_dflt (refine' r_gmax ?hze ?hzh F' N' ?_; (case hze => assumption); (case hzh => first | assumption | exact rfl)); (intro h' tk' t' F' N'); (try k_sweep))
  k_with "binaryOp Pow int int" => (k_here; refine r_gpow (by assumption) (by assumption) (by assumption) ?_)
  k_with "call ref" => (k_here; (try dsimp only [List.append_nil, List.cons_append, List.nil_append]); (with_reducible show wpAny _ _ (call (Value.ref 87) [Value.int _ _, Value.int _ _]) _ _ _); k_dflt (refine' c_frac _ _ _ _ _ _ _ _ ?hzh1 ?hzh2 _ _ _ _ _ _ _ _ _ _ _ _ _ _ _ _ _ _ ?hzB ?hzF ?hzX ?hzN ?hzT ?hzck ?hzdp ?hzun ?_; (case hzB => k_asm); (case hzF => k_asm); (case hzX => k_asm); (case hzN => k_asm); (case hzT => k_asm); (case hzck => first | exact rfl | assumption); (case hzh1 => assumption); (case hzh2 => assumption); (case hzdp => ktr_room); (case hzun => ktr_units)); intro x' l' h' tk' hP' F' N' l1; obtain ⟨t9, u9, hr'⟩ := hP'; subst hr'; (have l0 := l1); (try k_lt l1); (try k_sweep))
  k_with "exec If" => ((with_reducible rename JoinRd 2 _ => hj); k_here; (with_reducible show wpAny _ _ (exec (Stmt.If (Expr.BoolOp _ _ _) _ _ _) _) _ _ _); (with_reducible rename Fr _ _ _ _ => F'); (with_reducible rename News _ _ _ _ => N'); refine joinRd2 hj F' N' ?_ ?_; (clear hj; intro Q' hq'); rotate_left; (clear hj F' N'; intro h' tk' F' N'))
  k_with "ktr_room" => ((try simp only [depth_under_make, depth_under_kw, depth_in1, depth_deeper, depth_caller]); (try dsimp only [ktrTop]); first | exact roomG (by assumption) (by decide) | exact roomA (by assumption) (by decide) | exact roomZ (by assumption))
  k_with "ktr_units" => ((try simp only [units_in1, units_deeper, Around.mark_units, units_caller]); (try dsimp only [ktrTop]); first | exact roomG (by assumption) (by decide) | exact roomA (by assumption) (by decide) | exact roomZ (by assumption))
  k_with "k_ne" => (refine neN ?_; (try dsimp only); first | exact neLt (by assumption) | exact neGt (by assumption) | exact neGt (And.left (by assumption)) | exact neGt (And.left (And.right (by assumption))) | exact neGt (And.left (And.right (And.right (by assumption)))) | exact neGt (And.left (And.right (And.right (And.right (by assumption))))))
  trivial
section
set_option maxHeartbeats 8000000 in
theorem c_rexp0 (w : World) (mean : ExcName → Option Value) (mg mb : Str → Option Value) (T : Str) (hT : Short T) (k : Int) (hk : 0 ≤ k) (h1 : (skipS T k (Str.ofString "eE") == Str.ofString "") = true) : ObC 125 w mean mg mb 143 [] 9 90 T k (fun r i => (∃ t, r = .int 0 t) ∧ i = xA T k) := by
  unfold ObC
  k_fill
  intro x d hxd rest ta tb tc td hne dp un gd cn cs a ccd cl outer A₀ base h₀ L m s Q E B F X N TT hck hdp hun hret
  refine wpAny_call ?_
  k_dflt cell_enter
  k_steps
  all_goals first
    | exact hret _ _ _ _ _ ⟨⟨_, rfl⟩, rfl⟩ (by k_asm) (by first | k_asm | (refine cb_drop (by assumption) ?_; kcj_all))
set_option maxHeartbeats 8000000 in
theorem c_rexp1 (w : World) (mean : ExcName → Option Value) (mg mb : Str → Option Value) (T : Str) (hT : Short T) (k : Int) (hk : 0 ≤ k) (h1 : (skipS T k (Str.ofString "eE") == Str.ofString "") = false) (n : Int) (h2 : (part T (xB T k) (xC T k) == Str.ofString "") = false) (h3 : (part T (xB T k) (xC T k)).length ≤ 9)
    (hD : ∀ c ∈ (part T (xB T k) (xC T k)).cps.toList, isD c = true) (h4 : wholeL (KStt.codes (part T (xB T k) (xC T k))) = n) (h5 : n ≤ 300) (sb : Bool) (h6 : (skipS T (xA T k) (Str.ofString "+-") == Str.ofString "-") = sb) :
    ObC 125 w mean mg mb 143 [] 9 90 T k (fun r i => (∃ t, r = .int (if sb = true then -n else n) t) ∧ i = xC T k) := by
  unfold ObC
  k_fill
  intro x d hxd rest ta tb tc td hne dp un gd cn cs a ccd cl outer A₀ base h₀ L m s Q E B F X N TT hck hdp hun hret
  refine wpAny_call ?_
  k_dflt cell_enter
  k_steps
  all_goals first
    | exact hret _ _ _ _ _ ⟨v_neg (h6.symm.trans (by assumption)), rfl⟩ (by k_asm) (by first | k_asm | (refine cb_drop (by assumption) ?_; kcj_all))
    | exact hret _ _ _ _ _ ⟨v_pos (h6.symm.trans (by assumption)), rfl⟩ (by k_asm) (by first | k_asm | (refine cb_drop (by assumption) ?_; kcj_all))

end
section
set_option maxHeartbeats 8000000 in
theorem c_rdG (w : World) (mean : ExcName → Option Value) (mg mb : Str → Option Value) (T : Str) (hT : Short T) (ex e n p q r1 r2 : Int) (sb : Bool) (h1 : (part T (rA T) (rB T) ++ rP T == Str.ofString "") = false) (h2 : (part T (rA T) (rB T) ++ rP T).length ≤ 60) (h3 : (part T (rA T) (rB T)).length + (rP T).length ≤ 60)
    (hD : ∀ c ∈ (part T (rA T) (rB T) ++ rP T).cps.toList, isD c = true) (h4 : wholeL (KStt.codes (part T (rA T) (rB T) ++ rP T)) = n) (he : ex - (rP T).length = e) (h5 : (if e > 0 then e else 0) = r1) (h6 : (if -e > 0 then -e else 0) = r2)
    (b1 : 0 ≤ r1) (b2 : r1 ≤ 400) (b3 : 0 ≤ r2) (b4 : r2 ≤ 400) (h7 : (10 : Int) ^ r1.toNat = p) (h8 : (10 : Int) ^ r2.toNat = q) (n0 : 0 ≤ n) (n1 : n ≤ 1000000) (p0 : 0 < p) (p1 : p ≤ 1000000) (q0 : 0 < q) (q1 : q ≤ 1000000) (np : n * p ≤ 1000000) (np0 : 0 ≤ n * p)
    (h9 : (skipS T 0 (Str.ofString "+-") == Str.ofString "-") = sb)
    (re : ObC 125 w mean mg mb 143 [] 9 90 T (rC T) (fun r i => (∃ t, r = .int ex t) ∧ i = T.length)) (tt : Tok) :
    TuC w mean mg mb 150 [.str T tt] 12 120 (fun l => ∃ v t u, v = (if sb = true then -(n * p) else n * p) ∧ l = [.int (Int.fdiv v (Int.gcd v q : Nat)) t, .int (Int.fdiv q (Int.gcd v q : Nat)) u]) := by
  unfold TuC
  k_fill
  intro news dp un gd cn cs a ccd cl outer A₀ base h₀ L m s Q E B F X N TT hck hdp hun hret
  subst he
  have hj : JoinRd 1 T := trivial
  have hj2 : JoinRd 2 T := trivial
  refine wpAny_call ?_
  k_dflt cell_enter
  k_steps
  all_goals first
    | (rename (∀ h' tk' td' i n' tn', i = rC _ → _) => hq'
       refine hq' _ _ _ _ _ _ ?_ ?_ (by first | exact fr_p1 (by assumption) | exact fr_p2 (by assumption)) (by first | k_asm | (refine cb_drop (by assumption) ?_; kcj_all))
       · unfold rC; simp_all; done
       · unfold rP; simp_all; done)
    | (rename (∀ h' tk', Fr _ _ h' _ → _) => hq'; exact hq' _ _ (by assumption) (by assumption))
    | ((rename (∀ p ∈ _, Prod.fst p < _) => l0)
       refine hret _ [_, _] _ _ ?_ (by k_asm) (by first | k_asm | (refine cb_drop (by assumption) ?_; kcj_all)) (fun p hp => l0 p (by repeat (first | exact hp | refine List.Mem.tail _ ?_)))
       first
         | exact ⟨_, _, _, sg_neg (h9.symm.trans (by assumption)), rfl⟩
         | exact ⟨_, _, _, sg_pos (h9.symm.trans (by assumption)), rfl⟩)

end
theorem laid17 : True := by
  k_with "exec Raise some none" => (k_here; refine exec_raise rfl ?_)
  k_with "call ref" => (k_here; (try dsimp only [List.append_nil, List.cons_append, List.nil_append]); (with_reducible show wpAny _ _ (call (Value.ref 51) [Value.str _ _]) _ _ _); k_dflt (refine' call_exc ?hzF ?hzX ?hzN ?hzc ?hzi ?hzf ?hzz ?_; (case hzF => k_asm); (case hzX => k_asm); (case hzN => k_asm); (case hzc => kernel_rfl); (case hzi => k_is); (case hzf => k_is); (case hzz => exact Nat.le_of_ble_eq_true rfl); intro x' d' h' F' N' l1 l2; (try ((rename (∀ p ∈ _, Prod.fst p ≠ _) => hne9); have l8 := ne_more hne9 (fun p hp => Nat.lt_trans (l1 p (by (iterate 8 (try first | exact hp | refine List.Mem.tail _ ?_)))) l2))); (try k_lt l1); (try k_lt2 l2); (try k_sweep); k_enter))
  k_with "setAttr ref" => (k_here; k_dflt (first | (refine' setE_first ?hzF ?hzX ?hzN ?hzs ?hzo ?hzt ?hzd ?hzm ?hzU ?_; (case hzF => k_asm); (case hzX => k_asm); (case hzN => k_asm); (case hzm => k_mem); (case hzs => k_is); (case hzo => kernel_rfl); (case hzt => k_is); (case hzd => k_is); (case hzU => intro d9; k_upd); intro d' h' F' N' l1; (try k_lt l1); (try k_sweep)) | (refine' setE_next ?hzF ?hzX ?hzN ?hzs ?hzo ?hzt ?hzd ?hzm ?hzm2 ?hzl ?hze ?hzU ?hzz ?_; (case hzF => k_asm); (case hzX => k_asm); (case hzN => k_asm); (case hzm => k_mem); (case hzm2 => k_mem); (case hzs => k_is); (case hzo => kernel_rfl); (case hzt => k_is); (case hzd => k_is); (case hzl => k_get); (case hze => k_put); (case hzU => k_upd); (case hzz => exact Nat.le_of_ble_eq_true rfl); intro h' F' N'; (try k_sweep))))
  trivial
section
theorem news_swap {h₀ h : Heap} {L : Addr} {all rest : List (Addr × Obj)} {q1 q2 : Addr × Obj} (N : News h₀ L h (q1 :: q2 :: all)) (h2 : ∀ p ∈ rest, p ∈ all) : News h₀ L h (q2 :: q1 :: rest) := fun p hp => by
  rcases List.mem_cons.mp hp with rfl | hp
  · exact N _ (.tail _ (.head _))
  · rcases List.mem_cons.mp hp with rfl | hp
    · exact N _ (.head _)
    · exact N _ (.tail _ (.tail _ (h2 p hp)))
set_option maxHeartbeats 8000000 in
theorem c_rdEG (w : World) (mean : ExcName → Option Value) (mg mb : Str → Option Value) (T : Str) (hT : Short T) (n : Int) (h1 : (part T (rA T) (rB T) ++ rP T == Str.ofString "") = false) (h2 : (part T (rA T) (rB T) ++ rP T).length ≤ 60) (h3 : (part T (rA T) (rB T)).length + (rP T).length ≤ 60)
    (x1 : (skipS T (rC T) (Str.ofString "eE") == Str.ofString "") = false) (x2 : (part T (xB T (rC T)) (xC T (rC T)) == Str.ofString "") = false) (x3 : (part T (xB T (rC T)) (xC T (rC T))).length ≤ 9) (xD : ∀ c ∈ (part T (xB T (rC T)) (xC T (rC T))).cps.toList, isD c = true) (x4 : wholeL (KStt.codes (part T (xB T (rC T)) (xC T (rC T)))) = n) (x5 : 300 < n) (tt : Tok) (news : List (Addr × Obj)) :
    ∀ (dp un : Nat) (gd : Option (List Code)) (cn : Str) (cs : Scope) (a : Addr) (ccd : Value) (cl : List (Str × Addr)) (outer : List Env) (A₀ : Around) (base h₀ : Heap) (L : Addr) (m : Str → Option Value) (s : Shared) (Q E : Value → Shared → Prop), Below A₀ base outer h₀ → Fr h₀ L s.heap m → (hd.heap_39 w.params).In h₀ → News h₀ L s.heap (news) → Top hd.view_39 (looseW hd.view_39 [Str.ofString "MOST_VALUE", Str.ofString "fraction"]) mean mg mb h₀ → cs.kind = .function → dp + 14 < recursionLimit → un + 140 < cLine → 
    (∀ g e dd tk mg' tm h' tk', Fr h₀ L g m → RaisedX base g (envX cn cs L a ccd cl :: outer) e 51 (some dd) ((dd, dictOf [⟨PyData.keyHash w.params (Str.ofString "message"), .str (Str.ofString "message") tk, .str mg' tm⟩] 1) :: news) h' → g.UpToSlots h' → E (.ref e) { s with heap := h', toks := tk' }) →
    wpAny (model PySem.Challenge.rw_xm0729_01.row.prog w) (ktrTop dp un gd cn cs L a ccd cl outer) (call (.ref 150) [.str T tt]) Q E s := by
  k_fill
  intro dp un gd cn cs a ccd cl outer A₀ base h₀ L m s Q E B F X N TT hck hdp hun hret
  have hneL : ∀ p ∈ news, p.1 ≠ L := fun p hp => (N p hp).2.1
  have hc := rC_nn T
  have hj : JoinRd 1 T := trivial
  refine wpAny_call ?_
  k_dflt cell_enter
  k_steps
  all_goals first
    | (rename (∀ h' tk' td' i n' tn', i = rC _ → _) => hq'
       refine hq' _ _ _ _ _ _ ?_ ?_ (by first | exact fr_p1 (by assumption) | exact fr_p2 (by assumption)) (by first | k_asm | (refine cb_drop (by assumption) ?_; kcj_all))
       · unfold rC; simp_all; done
       · unfold rP; simp_all; done)
    | skip
  (rename Fr _ _ _ _ => lF'); (rename News _ _ _ _ => lN')
  refine' thrownK_ lF' ?X lN' ?m ?c ?h
  case m => k_mem
  case c => kernel_rfl
  case X => k_asm
  refine' leave_excX ?K lF' (news_swap (rest := news) lN' ?m2) ?ne ?hk ?fin
  case m2 => exact fun p hp => by (iterate 12 (try first | exact hp | refine List.Mem.tail _ ?_))
  case K => k_asm
  case hk => exact rfl
  case ne => exact List.forall_mem_cons.mpr ⟨(Nat.ne_of_lt (by omega)).symm, by assumption⟩
  case fin =>
    intro h' R U
    refine' leave_onX ?K ?F R U ?_
    case K => k_asm
    case F => assumption
    intro h' R' U'
    exact hret _ _ _ _ _ _ _ _ (by assumption) R' U'
theorem c_rdE (w : World) (mean : ExcName → Option Value) (mg mb : Str → Option Value) (tt : Tok) (news : List (Addr × Obj)) :
    ∀ (dp un : Nat) (gd : Option (List Code)) (cn : Str) (cs : Scope) (a : Addr) (ccd : Value) (cl : List (Str × Addr)) (outer : List Env) (A₀ : Around) (base h₀ : Heap) (L : Addr) (m : Str → Option Value) (s : Shared) (Q E : Value → Shared → Prop), Below A₀ base outer h₀ → Fr h₀ L s.heap m → (hd.heap_39 w.params).In h₀ → News h₀ L s.heap (news) → Top hd.view_39 (looseW hd.view_39 [Str.ofString "MOST_VALUE", Str.ofString "fraction"]) mean mg mb h₀ → cs.kind = .function → dp + 14 < recursionLimit → un + 140 < cLine → 
    (∀ g e dd tk mg' tm h' tk', Fr h₀ L g m → RaisedX base g (envX cn cs L a ccd cl :: outer) e 51 (some dd) ((dd, dictOf [⟨PyData.keyHash w.params (Str.ofString "message"), .str (Str.ofString "message") tk, .str mg' tm⟩] 1) :: news) h' → g.UpToSlots h' → E (.ref e) { s with heap := h', toks := tk' }) →
    wpAny (model PySem.Challenge.rw_xm0729_01.row.prog w) (ktrTop dp un gd cn cs L a ccd cl outer) (call (.ref 150) [.str (Str.ofString "1e301") tt]) Q E s :=
  c_rdEG w mean mg mb (Str.ofString "1e301") (by unfold Short; decide +kernel) 301 (by decide +kernel) (by decide +kernel) (by decide +kernel) (by decide +kernel) (by decide +kernel) (by decide +kernel) (by decide +kernel) (by decide +kernel) (by decide +kernel) tt news

end
theorem laid18 : True := by
  k_with_none
  trivial
section
theorem obc_mono {C : Addr} (w : World) (mean : ExcName → Option Value) (mg mb : Str → Option Value) {f : Addr} {args : List Value} {D U : Nat} {T : Str} {k : Int} {P P' : Value → Int → Prop} (h : ∀ r i, P r i → P' r i) (c : ObC C w mean mg mb f args D U T k P) : ObC C w mean mg mb f args D U T k P' := by
  unfold ObC at *
  intro x d hxd rest ta tb tc td hne dp un gd cn cs a ccd cl outer A₀ base h₀ L m s Q E B F X N TT hck hdp hun hret
  exact c x d hxd rest ta tb tc td hne dp un gd cn cs a ccd cl outer A₀ base h₀ L m s Q E B F X N TT hck hdp hun fun r h' tk' td' i hp => hret r h' tk' td' i (h r i hp)
theorem tuc_mono (w : World) (mean : ExcName → Option Value) (mg mb : Str → Option Value) {f : Addr} {args : List Value} {D U : Nat} {P P' : List Value → Prop} (h : ∀ l, P l → P' l) (c : TuC w mean mg mb f args D U P) : TuC w mean mg mb f args D U P' := by
  unfold TuC at *
  intro news dp un gd cn cs a ccd cl outer A₀ base h₀ L m s Q E B F X N TT hck hdp hun hret
  exact c news dp un gd cn cs a ccd cl outer A₀ base h₀ L m s Q E B F X N TT hck hdp hun fun x l h' tk' hp => hret x l h' tk' (h l hp)
theorem rd_ex0 (w : World) (mean : ExcName → Option Value) (mg mb : Str → Option Value) (T : Str) (o : T.length ≤ 4096 ∧ (skipS T (rC T) (Str.ofString "eE") == Str.ofString "") = true ∧ xA T (rC T) = T.length) : ObC 125 w mean mg mb 143 [] 9 90 T (rC T) (fun r i => (∃ t, r = .int 0 t) ∧ i = T.length) :=
  obc_mono w mean mg mb (fun _ _ h => ⟨h.1, h.2.trans o.2.2⟩) (c_rexp0 w mean mg mb T o.1 (rC T) (rC_nn T) o.2.1)
theorem rd_ex1 (w : World) (mean : ExcName → Option Value) (mg mb : Str → Option Value) (T : Str) (n : Int) (sb : Bool) (o : T.length ≤ 4096 ∧ (skipS T (rC T) (Str.ofString "eE") == Str.ofString "") = false ∧ xC T (rC T) = T.length ∧ (part T (xB T (rC T)) (xC T (rC T)) == Str.ofString "") = false ∧ (part T (xB T (rC T)) (xC T (rC T))).length ≤ 9 ∧ (∀ c ∈ (part T (xB T (rC T)) (xC T (rC T))).cps.toList, isD c = true) ∧ wholeL (KStt.codes (part T (xB T (rC T)) (xC T (rC T)))) = n ∧ n ≤ 300 ∧ (skipS T (xA T (rC T)) (Str.ofString "+-") == Str.ofString "-") = sb) : ObC 125 w mean mg mb 143 [] 9 90 T (rC T) (fun r i => (∃ t, r = .int (if sb = true then -n else n) t) ∧ i = T.length) :=
  obc_mono w mean mg mb (fun _ _ h => ⟨h.1, h.2.trans o.2.2.1⟩) (c_rexp1 w mean mg mb T o.1 (rC T) (rC_nn T) o.2.1 n o.2.2.2.1 o.2.2.2.2.1 o.2.2.2.2.2.1 o.2.2.2.2.2.2.1 o.2.2.2.2.2.2.2.1 sb o.2.2.2.2.2.2.2.2)
theorem rd_of (w : World) (mean : ExcName → Option Value) (mg mb : Str → Option Value) (T : Str) (ex n p q r1 r2 a b : Int) (sb : Bool)
    (re : ObC 125 w mean mg mb 143 [] 9 90 T (rC T) (fun r i => (∃ t, r = .int ex t) ∧ i = T.length))
    (o : T.length ≤ 4096 ∧ (part T (rA T) (rB T) ++ rP T == Str.ofString "") = false ∧ (part T (rA T) (rB T) ++ rP T).length ≤ 60 ∧ (part T (rA T) (rB T)).length + (rP T).length ≤ 60 ∧
      (∀ c ∈ (part T (rA T) (rB T) ++ rP T).cps.toList, isD c = true) ∧ wholeL (KStt.codes (part T (rA T) (rB T) ++ rP T)) = n ∧ (if ex - (rP T).length > 0 then ex - (rP T).length else 0) = r1 ∧ (if -(ex - (rP T).length) > 0 then -(ex - (rP T).length) else 0) = r2 ∧
      (skipS T 0 (Str.ofString "+-") == Str.ofString "-") = sb)
    (b1 : 0 ≤ r1 ∧ r1 ≤ 400 ∧ 0 ≤ r2 ∧ r2 ≤ 400 ∧ (10 : Int) ^ r1.toNat = p ∧ (10 : Int) ^ r2.toNat = q ∧ 0 ≤ n ∧ n ≤ 1000000 ∧ 0 < p ∧ p ≤ 1000000 ∧ 0 < q ∧ q ≤ 1000000 ∧ n * p ≤ 1000000 ∧ 0 ≤ n * p ∧
      Int.fdiv (if sb = true then -(n * p) else n * p) (Int.gcd (if sb = true then -(n * p) else n * p) q : Nat) = a ∧ Int.fdiv q (Int.gcd (if sb = true then -(n * p) else n * p) q : Nat) = b) (tt : Tok) :
    TuC w mean mg mb 150 [.str T tt] 12 120 (fun l => ∃ t u, l = [.int a t, .int b u]) := by
  obtain ⟨oT, o1, o2, o3, o4, o5, o6, o7, o8⟩ := o
  obtain ⟨c1, c2, c3, c4, c5, c6, c7, c8, c9, d1, d2, d3, d4, d5, d6, d7⟩ := b1
  refine tuc_mono w mean mg mb (fun l h => ?_) (c_rdG w mean mg mb T oT ex _ n p q r1 r2 sb o1 o2 o3 o4 o5 rfl o6 o7 c1 c2 c3 c4 c5 c6 c7 c8 c9 d1 d2 d3 d4 d5 o8 re tt)
  obtain ⟨v, t, u, hv, hl⟩ := h
  subst hv
  exact ⟨t, u, by rw [hl, d6, d7]⟩
theorem c_rd_all (w : World) (mean : ExcName → Option Value) (mg mb : Str → Option Value) {i : Nat} (hi : i < 11) (tt : Tok) : TuC w mean mg mb 150 [.str (wdS i) tt] 12 120 (fun l => ∃ t u, l = [.int (wdN i).1 t, .int (wdN i).2 u]) := by
  rcases i with _ | _ | _ | _ | _ | _ | _ | _ | _ | _ | _ | i
  · exact rd_of w mean mg mb (wdS 0) 0 0 1 1 0 0 _ _ false (rd_ex0 w mean mg mb _ (by decide +kernel)) (by decide +kernel) (by decide +kernel) tt
  · exact rd_of w mean mg mb (wdS 1) 0 12 1 1 0 0 _ _ false (rd_ex0 w mean mg mb _ (by decide +kernel)) (by decide +kernel) (by decide +kernel) tt
  · exact rd_of w mean mg mb (wdS 2) 0 25 1 10 0 1 _ _ true (rd_ex0 w mean mg mb _ (by decide +kernel)) (by decide +kernel) (by decide +kernel) tt
  · exact rd_of w mean mg mb (wdS 3) 0 5 1 10 0 1 _ _ false (rd_ex0 w mean mg mb _ (by decide +kernel)) (by decide +kernel) (by decide +kernel) tt
  · exact rd_of w mean mg mb (wdS 4) 0 3 1 1 0 0 _ _ false (rd_ex0 w mean mg mb _ (by decide +kernel)) (by decide +kernel) (by decide +kernel) tt
  · exact rd_of w mean mg mb (wdS 5) _ 1 100 1 2 0 _ _ false (rd_ex1 w mean mg mb _ 2 false (by decide +kernel)) (by decide +kernel) (by decide +kernel) tt
  · exact rd_of w mean mg mb (wdS 6) 0 4 1 1 0 0 _ _ false (rd_ex0 w mean mg mb _ (by decide +kernel)) (by decide +kernel) (by decide +kernel) tt
  · exact rd_of w mean mg mb (wdS 7) 0 25 1 100 0 2 _ _ true (rd_ex0 w mean mg mb _ (by decide +kernel)) (by decide +kernel) (by decide +kernel) tt
  · exact rd_of w mean mg mb (wdS 8) _ 5 1 10 0 1 _ _ false (rd_ex1 w mean mg mb _ 1 true (by decide +kernel)) (by decide +kernel) (by decide +kernel) tt
  · exact rd_of w mean mg mb (wdS 9) 0 1 1 1 0 0 _ _ false (rd_ex0 w mean mg mb _ (by decide +kernel)) (by decide +kernel) (by decide +kernel) tt
  · exact rd_of w mean mg mb (wdS 10) 0 2 1 1 0 0 _ _ false (rd_ex0 w mean mg mb _ (by decide +kernel)) (by decide +kernel) (by decide +kernel) tt
  · omega

end
section
section
variable {prog : Program} {w : World} {A₀ : Around} {E : Value → Shared → Prop} {s' : Shared} {base g g₀ G : Heap} {outer : List Env} {L a e C : Addr} {dd : Option Addr} {m : Str → Option Value} {name : Str} {scope : Scope} {cd : Value}
  {n : Str} {b₀ : Stmt} {suite : List Stmt} {pos np : Pos} {rest : List ExceptHandler} {Q : Flow → Shared → Prop} {news : List (Addr × Obj)} {KF : Frag}
  {p : Program} {loose : List Str} {mean : ExcName → Option Value} {mg mb : Str → Option Value} {x : Str}
/-- caught by its own class, without a name -/
theorem caught_X0 (R : RaisedX base G (envOf name scope L a cd :: outer) e C dd news s'.heap) (F : Fr g L G m) (K : Below A₀ base outer g) (hsm : G.UpToSlots s'.heap) (XB : KF.In base) (TB : Top p loose mean mg mb base)
    (ex : nsIn KF mainGlobals x = some (some (.ref C))) (q : excK KF C = true)
    (k : ∀ h' g', KtsTurn (outer.filterMap (·.frame)) g g' → Fr g' L h' m → News g' L h' news → Below A₀ base outer g' → KF.In g' → Top p loose mean mg mb g' →
      wpAny (model prog w) ((A₀.deeper (envOf name scope L a cd)).mark (some (.ref e))) (execs (b₀ :: suite) (envOf name scope L a cd)) Q E { s' with heap := h' })
    (hk : scope.kind = .function := by rfl) (hx : (envOf name scope L a cd).kindOf x = some .globalImplicit := by rfl) (hd : (x == ("__debug__" : Str)) = false := by decide)
    (hE : PassesOwnAt (model prog w) ((A₀.deeper (envOf name scope L a cd)).mark (some (.ref e))) (A₀.deeper (envOf name scope L a cd)) (envOf name scope L a cd) E := by passes_own) :
    wpAny (model prog w) (A₀.deeper (envOf name scope L a cd)) (noteFrame (.ref e) (envOf name scope L a cd))
      (fun _ s₂ => wpAny (model prog w) (A₀.deeper (envOf name scope L a cd)) (setFlight (.ref e) none) (fun _ s₃ =>
        wpAny (model prog w) (A₀.deeper (envOf name scope L a cd)) (handleBy (.ref e) (envOf name scope L a cd) (.ExceptHandler (some (.Name x np)) none (b₀ :: suite) pos :: rest)) Q E s₃) E s₂) E s' := by
  obtain ⟨⟨B, a0, hB, hBG, hl, hfl⟩, -⟩ := R
  have hL : B.get? L = none := by
    obtain ⟨_, ⟨L', _, hf, hn', _⟩, _⟩ := hfl.2.2.1
    obtain rfl : L = L' := Option.some.inj hf
    exact hn'
  refine wpAny_looks_onW (Around.frames_deeper K.stack) rfl hfl fun h₄ hheld₄ hsm₄ => ?_
  refine wpAny_landsW hheld₄ fun h₅ hheld hsm₅' => ?_
  have hsm₅ := hsm₄.trans hsm₅'
  obtain ⟨g₅, T₅, F₅, K₅⟩ := kts_ground K F hBG hheld.1 (hsm.trans hsm₅)
  have X₅ : KF.In g₅ := XB.keeps K₅.stays
  have P₅ : TopRead p loose mg mb g₅ := topRead_of (TB.keeps K₅.stays)
  obtain ⟨ob, hob, hobc⟩ := hheld.there
  refine wpAny_handleBy_cons (codeAny_handlers_test (name_K F₅ X₅ P₅ ex ?_ hk hx hd)) (by intro q; cases q)
  obtain ⟨bm, nm, qn, N, bs, hdct, sn, sub, ab, col, ddc, k0, k1, k2, k3, k5, hC, c1, c2, c3, c4⟩ := (excK_of (X₅.keeps F₅.keep) q).obj
  refine wpAny_excMatches_sub_self hC hob hobc c2 (codeAny_handlers_suite ?_)
  refine lands_againW hheld fun h₆ hfl₆ hsm₆ => ?_
  obtain ⟨g₆, T₆, F₆, K₆⟩ := kts_ground K F hBG hfl₆.1 ((hsm.trans hsm₅).trans hsm₆)
  have Nl : News g₆ L h₆ news := fun q hq => ⟨hfl₆.1 _ _ (hl q hq).1, (fun z => by have := (hl q hq).1; rw [z, hL] at this; cases this), T₆.none_ _ (kts_none F.keep (hl q hq).2.1)⟩
  have X₆ : KF.In g₆ := XB.keeps K₆.stays
  have P₆ : Top p loose mean mg mb g₆ := TB.keeps K₆.stays
  exact wpAny_passesOwnAt hE (k h₆ g₆ T₆ F₆ Nl K₆ X₆ P₆)
end
section
variable {prog : Program} {w : World} {A₀ : Around} {E : Value → Shared → Prop} {s' : Shared} {base g G : Heap} {outer : List Env} {L a e C : Addr} {dd : Option Addr} {m : Str → Option Value} {name : Str} {scope : Scope} {cd : Value}
  {n : Str} {b₀ : Stmt} {suite : List Stmt} {pos np : Pos} {rest : List ExceptHandler} {Q : Flow → Shared → Prop} {news : List (Addr × Obj)} {KF : Frag}
  {p : Program} {loose : List Str} {mean : ExcName → Option Value} {mg mb : Str → Option Value} {x : Str}
/-- caught by its own class and bound to a name: the exception stands in the ledger, with its dict -/
theorem caught_XA (R : RaisedX base G (envOf name scope L a cd :: outer) e C dd news s'.heap) (F : Fr g L G m) (K : Below A₀ base outer g) (hsm : G.UpToSlots s'.heap) (XB : KF.In base) (TB : Top p loose mean mg mb base)
    (ex : nsIn KF mainGlobals x = some (some (.ref C))) (q : excK KF C = true)
    (k : ∀ h' g' tk oe vs, oe.cls = .ref C → keyOf oe = (dd, some .none) → oe.data = .fields vs → KtsTurn (outer.filterMap (·.frame)) g g' → Fr g' L h' (fun y => if y = n then some (.ref e) else m y) → News g' L h' ((e, oe) :: news) → Below A₀ base outer g' → KF.In g' → Top p loose mean mg mb g' →
      wpAny (model prog w) ((A₀.deeper (envOf name scope L a cd)).mark (some (.ref e))) (execs (b₀ :: suite) (envOf name scope L a cd))
        (fun f s₄ => wpAny (model prog w) (A₀.deeper (envOf name scope L a cd)) (do bindName (envOf name scope L a cd) n .none; unbindBehindTheSuite (envOf name scope L a cd) n pos) (fun _ s₅ => Q f s₅) E s₄)
        (AsSuiteRaised (model prog w) ((A₀.deeper (envOf name scope L a cd)).mark (some (.ref e))) (envOf name scope L a cd) n pos (notedBy (model prog w) ((A₀.deeper (envOf name scope L a cd)).mark (some (.ref e))) (envOf name scope L a cd) (cameBackBy (model prog w) (A₀.deeper (envOf name scope L a cd)) (envOf name scope L a cd) E)))
        { s' with heap := h', toks := tk })
    (hk : scope.kind = .function := by rfl) (hlo : (envOf name scope L a cd).kindOf n = some .local := by rfl) (hx : (envOf name scope L a cd).kindOf x = some .globalImplicit := by rfl) (hd : (x == ("__debug__" : Str)) = false := by decide) :
    wpAny (model prog w) (A₀.deeper (envOf name scope L a cd)) (noteFrame (.ref e) (envOf name scope L a cd))
      (fun _ s₂ => wpAny (model prog w) (A₀.deeper (envOf name scope L a cd)) (setFlight (.ref e) none) (fun _ s₃ =>
        wpAny (model prog w) (A₀.deeper (envOf name scope L a cd)) (handleBy (.ref e) (envOf name scope L a cd) (.ExceptHandler (some (.Name x np)) (some n) (b₀ :: suite) pos :: rest)) Q E s₃) E s₂) E s' := by
  obtain ⟨⟨B, a0, hB, hBG, hl, hfl⟩, oe₀, hoe₀, hdd₀⟩ := R
  have hL : B.get? L = none := by
    obtain ⟨_, ⟨L', _, hf, hn', _⟩, _⟩ := hfl.2.2.1
    obtain rfl : L = L' := Option.some.inj hf
    exact hn'
  refine wpAny_mono (keepD_any (kd_note _ _) (wpAny_looks_onW (Q := fun _ s₂ => ∃ h', s₂ = { s' with heap := h' } ∧ Heap.HeldW B (envOf name scope L a cd :: outer) e (.ref C) a0 L h' ∧ s'.heap.UpToSlots h') (Around.frames_deeper K.stack) rfl hfl fun h₄ hheld₄ hsm₄ => ⟨h₄, rfl, hheld₄, hsm₄⟩)) (fun _ s₂ z => ?_) fun _ _ z => z.1
  obtain ⟨⟨h₄, rfl, hheld₄, hsm₄⟩, D₄⟩ := z
  refine wpAny_mono (keepD_any (kd_setFlight _ _) (wpAny_landsW (Q := fun _ s₂ => ∃ h', s₂ = { s' with heap := h' } ∧ Heap.FlyingW B (envOf name scope L a cd :: outer) e (.ref C) a0 h' ∧ h₄.UpToSlots h') hheld₄ fun h₅ hheld hsm₅' => ⟨h₅, rfl, hheld, hsm₅'⟩)) (fun _ s₂ z => ?_) fun _ _ z => z.1
  obtain ⟨⟨h₅, rfl, hheld, hsm₅'⟩, D₅⟩ := z
  have hsm₅ := hsm₄.trans hsm₅'
  obtain ⟨g₅, T₅, F₅, K₅⟩ := kts_ground K F hBG hheld.1 (hsm.trans hsm₅)
  have X₅ : KF.In g₅ := XB.keeps K₅.stays
  have P₅ : TopRead p loose mg mb g₅ := topRead_of (TB.keeps K₅.stays)
  obtain ⟨ob, hob, hobc⟩ := hheld.there
  refine wpAny_handleBy_cons (codeAny_handlers_test (name_K F₅ X₅ P₅ ex ?_ hk hx hd)) (by intro q; cases q)
  obtain ⟨bm, nm, qn, N, bs, hdct, sn, sub, ab, col, ddc, k0, k1, k2, k3, k5, hC, c1, c2, c3, c4⟩ := (excK_of (X₅.keeps F₅.keep) q).obj
  refine wpAny_excMatches_sub_self hC hob hobc c2 (codeAny_handlers_suite_as ?_)
  refine wpAny_mono (keepD_any (kd_setFlight _ _) (lands_againW (Q := fun _ s₂ => ∃ h', s₂ = { s' with heap := h' } ∧ Heap.FlyingW B (envOf name scope L a cd :: outer) e (.ref C) a0 h' ∧ h₅.UpToSlots h') hheld fun h₆ hfl₆ hsm₆ => ⟨h₆, rfl, hfl₆, hsm₆⟩)) (fun _ s₂ z => ?_) fun _ _ z => z.1
  obtain ⟨⟨h₆, rfl, hfl₆, hsm₆⟩, D₆⟩ := z
  obtain ⟨g₆, T₆, F₆, K₆⟩ := kts_ground K F hBG hfl₆.1 ((hsm.trans hsm₅).trans hsm₆)
  have Nl : News g₆ L h₆ news := fun q hq => ⟨hfl₆.1 _ _ (hl q hq).1, (fun z => by have := (hl q hq).1; rw [z, hL] at this; cases this), T₆.none_ _ (kts_none F.keep (hl q hq).2.1)⟩
  have X₆ : KF.In g₆ := XB.keeps K₆.stays
  have P₆ : Top p loose mean mg mb g₆ := TB.keeps K₆.stays
  obtain ⟨oe, ws, hoe, hoec, hoed, hoe0⟩ := hfl₆.first
  have hdd : keyOf oe = (dd, some .none) := (((D₄.trans D₅).trans D₆).at hoe₀ hoe).trans hdd₀
  have ne₆ : g₆.get? e = none := T₆.none_ _ (kts_fresh F hBG hfl₆.2.1 fun o ho m => by
    obtain ⟨_, o', ho', hd⟩ := K.frames.mem m
    rw [ho] at ho'
    cases ho'
    obtain ⟨sl, hs⟩ := ((hsm.trans hsm₅).trans hsm₆) _ _ (F.keep _ _ ho) hd
    rw [hoe] at hs
    cases hs
    exact hd _ hoed)
  have N₆ := News.more F₆ Nl hoe (fun es n q => by rw [hoed] at q; cases q) ne₆
  refine stN F₆ N₆ (fun h₇ F₇ N₇ => ?_) hk hlo
  exact k h₇ g₆ _ oe ws hoec hdd hoed T₆ F₇ N₇ K₆ X₆ P₆
end

end
section
theorem entry_unchain : entryFor table "proto.unchain" = some Builtin.«proto.unchain» := entryFor_of_tree (by kernel_rfl)
section
variable {prog : Program} {w : World} {A : Around} {E : Value → Shared → Prop} {s : Shared} {env : Env}
/-- behind a raise in a handler: the context is written -/
theorem raiseNew_on {α : Type} {e e1 : Addr} {o o1 : Obj} {vs vs1 : Array Value} {Q : α → Shared → Prop} (hh : A.handled = some (.ref e1)) (hne : e1 ≠ e) (h1 : s.heap.get? e1 = some o1) (hd1 : o1.data = .fields vs1) (hc1 : vs1[2]? = some .none)
    (he : s.heap.get? e = some o) (hd : o.data = .fields vs) (hz : 2 < vs.size)
    (h : E (.ref e) { s with heap := s.heap.update e (Obj.mapFields (·.setIfInBounds 2 (.ref e1))) }) : wpAny (model prog w) A (raiseNew (.ref e) : Sem α) Q E s := by
  unfold raiseNew
  refine wpAny_bind (wpAny_handled ?_)
  rw [hh]
  dsimp only
  rw [if_pos (show ((Value.ref e1 != Value.ref e) = true) from by simp [hne])]
  refine wpAny_bind (wpAny_holding (wpAny_runValue (codeAny_builtin entry_unchain ?_)))
  unfold Builtin.«proto.unchain»
  dsimp only
  refine wpAny_bind (wpAny_field h1 hd1 hc1 ?_)
  rw [if_pos (by rfl)]
  refine wpAny_pure ?_
  show wpAny _ _ _ _ _ _
  refine wpAny_bind ?_
  unfold updateField
  refine wpAny_bind (wpAny_load he ?_)
  rw [hd]
  dsimp only
  rw [if_pos hz]
  refine wpAny_update' he ?_
  exact wpAny_throw h
end
/-- an exception that the call made is thrown in a handler -/
def ThrownH (e1 : Addr) (E : Value → Shared → Prop) (v : Value) (s₁ : Shared) : Prop := ∃ e C tu dd o1 vs1, v = .ref e ∧ ExcCl C s₁.heap ∧ s₁.heap.get? e = some (excObj C tu dd) ∧ e1 ≠ e ∧ s₁.heap.get? e1 = some o1 ∧ o1.data = .fields vs1 ∧ vs1[2]? = some .none ∧
  E (.ref e) { s₁ with heap := s₁.heap.update e (Obj.mapFields (·.setIfInBounds 2 (.ref e1))) }
section
variable {prog : Program} {w : World} {A : Around} {E : Value → Shared → Prop} {s : Shared} {env : Env}
theorem raiseStmt_excH {x : Sem Value} {e1 : Addr} {Q : Flow → Shared → Prop} (hh : A.handled = some (.ref e1)) (h : wpAny (model prog w) A x (ThrownH e1 E) E s) :
    wpAny (model prog w) A (raiseStmt env (some x) none) Q E s := by
  unfold raiseStmt
  refine wpAny_bind (wpAny_mono h (fun v s₁ h₁ => ?_) fun _ _ x => x)
  obtain ⟨e, C, tu, dd', o1, vs1, rfl, c, he, hne, ho1, hd1, hc1, hE⟩ := h₁
  obtain ⟨bm, nm, q, N, bs, hdct, sn, sub, ab, col, dd, k0, k1, k2, k3, k5, hC, c1, c2, c3, c4⟩ := c.obj
  have hcB : (Value.ref C :: bm).contains (.type "BaseException") = true := by rw [List.contains_cons, c2, Bool.or_true]
  obtain ⟨hp, g, d, tk, os⟩ := s₁
  repeat (first | with_reducible refine wpAny_loadPart_at he ?_ | with_reducible refine wpAny_loadPart_at hC ?_ | (with_reducible refine wpAny_isSubtype_exc hC ?_; rw [hcB]) | wp_step)
  exact raiseNew_on hh hne ho1 hd1 hc1 he rfl (Nat.le_of_ble_eq_true rfl) hE
theorem exec_raiseH {ex : Expr} {e1 : Addr} {pos : Pos} {Q : Flow → Shared → Prop} (hh : A.handled = some (.ref e1))
    (h : wpAny (model prog w) A (eval ex env) (ThrownH e1 E) E s) :
    wpAny (model prog w) A (exec (.Raise (some ex) none pos) env) Q E s := by
  rw [arm_exec_Raise]
  have h' : wpAny (model prog w) A (do let v ← eval ex env; standAt pos; pure v) (ThrownH e1 E) E s :=
    wpAny_bind (wpAny_mono h (fun v s₃ h₃ => wpAny_bind (wpAny_standAt (wpAny_pure h₃))) fun _ _ x => x)
  refine wpAny_bind (wpAny_standAt ?_)
  simp only [evalOpt, Option.map]
  exact raiseStmt_excH hh h'
end

end
section
theorem funFrames_soft {h h' base : Heap} (k : ∀ b o, h.get? b = some o → (∀ vs, o.data ≠ .fields vs) → ∃ o', h'.get? b = some o' ∧ ∀ vs, o'.data ≠ .fields vs) : ∀ {l : List Env}, h.FunFrames base l → h'.FunFrames base l
  | [], _ => trivial
  | _ :: _, ⟨hk, ⟨L, o, hf, hn, ho, hd⟩, hr⟩ => by
    obtain ⟨o', ho', hd'⟩ := k L o ho hd
    exact ⟨hk, ⟨L, o', hf, hn, ho', hd'⟩, funFrames_soft k hr⟩
section
variable {M : Model} {A : Around} {E : Value → Shared → Prop} {s : Shared}
theorem note_firstW {base : Heap} {env : Env} {outer : List Env} {L e : Addr} {oe : Obj} {vs : Array Value} {a0 : Value} {Q : Unit → Shared → Prop}
    (hfr : A.frames = some (env :: outer)) (hl : s.heap.FunFrames base (env :: outer)) (hf : env.frame = some L)
    (he : s.heap.get? e = some oe) (hkb : base.StaysIn s.heap) (hen : base.get? e = none) (hd : oe.data = .fields vs) (h1 : vs[1]? = some .none) (h0 : vs[0]? = some a0)
    (h : ∀ h', Heap.NotedW base (env :: outer) e oe.cls a0 (rawInt L) s.heap h' → Q () { s with heap := h' }) : wpAny M A (noteFrame (.ref e) env) Q E s := by
  unfold noteFrame
  simp only [hf]
  refine wpAny_bind (wpAny_field he hd h1 ?_)
  rw [if_neg (by decide)]
  exact wpAny_entryW hfr hl hf he hkb hen hd (Array.getElem?_eq_some_iff.mp h1).1 h0 h
theorem held_fly {base : Heap} {l : List Env} {e L : Addr} {cls a0 : Value} {Q : Unit → Shared → Prop} (hh : Heap.HeldW base l e cls a0 L s.heap)
    (h : ∀ h', Heap.HeldW base l e cls a0 L h' → s.heap.UpToSlots h' → Q () { s with heap := h' }) : wpAny M A (setFlight (.ref e) (some L)) Q E s := by
  obtain ⟨hkb, hen, hl, ht⟩ := hh
  obtain ⟨oe, vs, T, oT, ts, he, hcls, hd, h1, hnT, hTe, hT, hdT, h3⟩ := ht
  have hsz3 : 3 < ts.size := (Array.getElem?_eq_some_iff.mp h3).1
  have other : ∀ b, b ≠ T → (s.heap.update T (Obj.mapFields (·.setIfInBounds 3 ((some L : Option Addr).elim Value.none fun f => rawInt f)))).get? b = s.heap.get? b :=
    fun b hb => Heap.get?_update_other _ _ (Ne.symm hb)
  have noRecord : ∀ b o, s.heap.get? b = some o → (∀ vs, o.data ≠ .fields vs) → b ≠ T := fun b o hb hnf q => by
    rw [q, hT] at hb; injection hb with hb; subst hb; exact hnf ts hdT
  unfold setFlight
  refine wpAny_bind (wpAny_field he hd h1 ?_)
  rw [if_pos (show (Value.ref T != Value.none) = true from by simp)]
  refine wpAny_setField hT hdT hsz3 (h _ ⟨fun b o hbo => (other b fun q => by rw [q, hnT] at hbo; cases hbo).trans (hkb b o hbo), hen,
    hl.of_keeps fun b o hb hnf => ⟨o, (other b (noRecord b o hb hnf)).trans hb, rfl⟩, ?_⟩ fun b o hb hnf => ⟨o.slots, (other b (noRecord b o hb hnf)).trans hb⟩)
  exact ⟨oe, vs, T, _, _, (other e (Ne.symm hTe)).trans he, hcls, hd, h1, hnT, hTe, Heap.get?_update_self _ hT (Obj.isFreed_of_fields (Obj.data_mapFields hdT _)), Obj.data_mapFields hdT _, by simp [hsz3]⟩
theorem held_set {base h h' : Heap} {env : Env} {outer : List Env} {L e : Addr} {cls a0 : Value} {m : Str → Option Value} (hh : Heap.HeldW base (env :: outer) e cls a0 L h) (hL : base.get? L = none) (hn₀ : ∃ m₀, h.Ns L m₀) (hn : h'.Ns L m) (hs : Heap.SameBut L h h') :
    Heap.HeldW base (env :: outer) e cls a0 L h' := by
  obtain ⟨hkb, hen, hl, oe, vs, T, oT, ts, he, hcls, hd, h1, hnT, hTe, hT, hdT, h3⟩ := hh
  obtain ⟨m₀, oL, es, ep, hoL, hdL, _⟩ := hn₀
  have eL : e ≠ L := fun q => by subst q; rw [he] at hoL; cases hoL; rw [hd] at hdL; cases hdL
  have TL : T ≠ L := fun q => by subst q; rw [hT] at hoL; cases hoL; rw [hdT] at hdL; cases hdL
  refine ⟨fun b o hbo => (hs.2 b fun q => by rw [q, hL] at hbo; cases hbo).trans (hkb b o hbo), hen, funFrames_soft (fun b o hb hnf => ?_) hl, oe, vs, T, oT, ts, (hs.2 e eL).trans he, hcls, hd, h1, hnT, hTe, (hs.2 T TL).trans hT, hdT, h3⟩
  by_cases q : b = L
  · obtain ⟨o', es', ep', ho', hd', _⟩ := hn
    exact ⟨o', by rw [q]; exact ho', fun vs z => by rw [hd'] at z; cases z⟩
  · exact ⟨o, (hs.2 b q).trans hb, hnf⟩
end
/-- an exception that is held in the frame at hand -/
def HeldX (base G : Heap) (l : List Env) (e C L : Addr) (news : List (Addr × Obj)) (h : Heap) : Prop :=
  ∃ B a0, base.StaysIn B ∧ (∀ b o, G.get? b = some o → b ∉ l.filterMap (·.frame) → B.get? b = some o) ∧ (∀ q ∈ news, B.get? q.1 = some q.2 ∧ G.get? q.1 = none ∧ base.get? q.1 = none) ∧ Heap.HeldW B l e (.ref C) a0 L h
section
variable {prog : Program} {w : World} {A₀ : Around} {s : Shared} {base g g' : Heap} {outer : List Env} {L a e C : Addr} {oe : Obj} {vs : Array Value} {a0 : Value} {m : Str → Option Value} {name : Str} {scope : Scope} {cd : Value} {n : Str} {pos : Pos} {news : List (Addr × Obj)} {hd₀ : Option Value} {E₁ : Value → Shared → Prop}
theorem as_raised (K : Below A₀ base outer g') (F : Fr g' L s.heap m) (N : News g' L s.heap ((e, oe) :: news)) (hne : ∀ p ∈ news, p.1 ≠ e)
    (hc : oe.cls = .ref C) (hd : oe.data = .fields vs) (h0 : vs[0]? = some a0) (h1 : vs[1]? = some .none)
    (hQ : ∀ h' tk, HeldX base g' (envOf name scope L a cd :: outer) e C L news h' → g'.UpToSlots h' → E₁ (.ref e) { s with heap := h', toks := tk })
    (hk : scope.kind = .function) (hlo : (envOf name scope L a cd).kindOf n = some .local) :
    AsSuiteRaised (model prog w) ((A₀.deeper (envOf name scope L a cd)).mark hd₀) (envOf name scope L a cd) n pos
      (notedBy (model prog w) ((A₀.deeper (envOf name scope L a cd)).mark hd₀) (envOf name scope L a cd) (cameBackBy (model prog w) (A₀.deeper (envOf name scope L a cd)) (envOf name scope L a cd) E₁)) (.ref e) s := by
  have K' := K.push (name := name) (a := a) (cd := cd) F hk
  have he := N (e, oe) (.head _)
  have hin : ∀ env ∈ (envOf name scope L a cd :: outer), ∀ b, env.frame = some b → b ∈ e :: (envOf name scope L a cd :: outer).filterMap (·.frame) := fun env he b hb => .tail _ (List.mem_filterMap.mpr ⟨env, he, hb⟩)
  have st : base.StaysIn (hideAll s.heap (e :: (envOf name scope L a cd :: outer).filterMap (·.frame))) := fun b o q => hideAll_get _ (K'.stays b o q) fun hm => by
    rcases List.mem_cons.mp hm with rfl | hm
    · have := K.stays _ _ q; rw [he.2.2] at this; cases this
    · rw [(K'.frames.mem hm).1] at q; cases q
  have sg : ∀ b o, g'.get? b = some o → b ∉ (envOf name scope L a cd :: outer).filterMap (·.frame) → (hideAll s.heap (e :: (envOf name scope L a cd :: outer).filterMap (·.frame))).get? b = some o := fun b o q nm => hideAll_get _ (F.keep b o q) fun hm => by
    rcases List.mem_cons.mp hm with rfl | hm
    · rw [he.2.2] at q; cases q
    · exact nm hm
  have hl : ∀ q ∈ news, (hideAll s.heap (e :: (envOf name scope L a cd :: outer).filterMap (·.frame))).get? q.1 = some q.2 ∧ g'.get? q.1 = none ∧ base.get? q.1 = none := fun q hq => by
    have Nq := N q (.tail _ hq)
    refine ⟨hideAll_get _ Nq.1 fun hm => ?_, Nq.2.2, fresh_of_stays K.stays Nq.2.2⟩
    rcases List.mem_cons.mp hm with z | hm
    · exact hne q hq z
    · obtain ⟨env, hen, hf⟩ := List.mem_filterMap.mp hm
      rcases List.mem_cons.mp hen with rfl | hen
      · exact Nq.2.1 (Option.some.inj hf).symm
      · obtain ⟨o, ho, _⟩ := (K.frames.mem (List.mem_filterMap.mpr ⟨env, hen, hf⟩)).2
        rw [Nq.2.2] at ho; cases ho
  have hen : (hideAll s.heap (e :: (envOf name scope L a cd :: outer).filterMap (·.frame))).get? e = none := hideAll_none _ (.head _)
  have hL : (hideAll s.heap (e :: (envOf name scope L a cd :: outer).filterMap (·.frame))).get? L = none := hideAll_none _ (.tail _ (.head _))
  have hfr : ((A₀.deeper (envOf name scope L a cd)).mark hd₀).frames = some (envOf name scope L a cd :: outer) := K'.stack
  refine note_firstW (a0 := a0) hfr (funFrames_hide K'.frames hin) rfl he.1 (fun b o hb => of_hideAll _ hb) hen hd h1 h0 fun h₁ hN => ?_
  obtain ⟨k1, k2, k3, k4⟩ := hN
  rw [hc] at k3
  have H₁ : Heap.HeldW _ (envOf name scope L a cd :: outer) e (.ref C) a0 L h₁ := ⟨k1, hen, k2, k3⟩
  have U₁ : g'.UpToSlots h₁ := (Heap.UpToSlots.of_keeps F.keep).trans k4
  have n₁ : h₁.Ns L m := Heap.UpToSlots.ns k4 F.ns
  refine wpAny_nameGoes hlo n₁ (by show (scope.kind == .class || (scope.kind == .module && L != mainGlobals)) = false; rw [hk]; rfl) fun h₂ m₂ n₂ s₂ => ?_
  have H₂ := held_set H₁ hL ⟨m, n₁⟩ n₂ s₂
  have U₂ : g'.UpToSlots h₂ := fun b o q nf => by
    obtain ⟨sl, hs⟩ := U₁ b o q nf
    exact ⟨sl, (s₂.2 b (Nat.ne_of_lt (Nat.lt_of_lt_of_le (Heap.lt_size q) F.above))).trans hs⟩
  have back : ∀ (h : Heap) (tk : Nat) (Z : Value → Shared → Prop), Heap.HeldW (hideAll s.heap (e :: (envOf name scope L a cd :: outer).filterMap (·.frame))) (envOf name scope L a cd :: outer) e (.ref C) a0 L h → g'.UpToSlots h →
      (∀ h', Heap.HeldW (hideAll s.heap (e :: (envOf name scope L a cd :: outer).filterMap (·.frame))) (envOf name scope L a cd :: outer) e (.ref C) a0 L h' → g'.UpToSlots h' → Z (.ref e) { s with heap := h', toks := tk }) →
      cameBackBy (model prog w) (A₀.deeper (envOf name scope L a cd)) (envOf name scope L a cd) Z (.ref e) { s with heap := h, toks := tk } := fun h tk Z H U hZ => by
    unfold cameBackBy
    obtain ⟨oe, vs, T, oT, ts, he, hcls, hd, h1, hnT, hTe, hT, hdT, h3⟩ := H.2.2.2
    refine wpAny_bind (wpAny_field he hd h1 ?_)
    rw [if_neg (by simp)]
    exact held_fly H fun h' H' U' => hZ h' H' (U.trans U')
  unfold PySem.passOn
  obtain ⟨oe', vs', T', oT', ts', he', hcls', hd', h1', hnT', hTe', hT', hdT', h3'⟩ := H₂.2.2.2
  refine wpAny_bind (wpAny_field he' hd' h1' ?_)
  rw [if_neg (by simp)]
  refine wpAny_bind (held_fly H₂ fun h₃ H₃ U₃ => ?_)
  refine wpAny_throw ?_
  unfold notedBy
  refine wpAny_noteFrame_againW rfl H₃.2.2.2 ?_
  exact back h₃ _ _ H₃ (U₂.trans U₃) fun h₄ H₄ U₄ => hQ h₄ _ ⟨_, a0, st, sg, hl, H₄⟩ U₄
end
section
variable {M : Model} {A : Around} {E : Value → Shared → Prop} {s' : Shared} {base g g' g₂ : Heap} {outer : List Env} {L a e C : Addr} {m : Str → Option Value} {name : Str} {scope : Scope} {cd : Value} {Q : Unit → Shared → Prop} {news : List (Addr × Obj)}
theorem leave_held (T : KtsTurn (outer.filterMap (·.frame)) g g') (F : Fr g' L g₂ m) (R : HeldX base g' (envOf name scope L a cd :: outer) e C L news s'.heap) (U : g'.UpToSlots s'.heap)
    (hQ : ∀ h', RaisedSN base g outer e (.ref C) news h' → g.UpToSlots h' → Q () { s' with heap := h' }) :
    wpAny M A (leaving (envOf name scope L a cd) (.ref e)) Q E s' := by
  obtain ⟨B, a0, hB, hBG, hl, hh⟩ := R
  unfold leaving
  refine wpAny_bind (wpAny_noteFrame_againW rfl hh.2.2.2 ?_)
  refine wpAny_landsW hh fun h' hfl U' => ?_
  obtain ⟨k1, k2, ⟨_, _, k3⟩, k4⟩ := hfl
  refine hQ h' ⟨B, a0, hB, fun b o q nm => hBG b o (T.other b o q nm) fun hm => ?_, fun q hq => ⟨(hl q hq).1, ?_, (hl q hq).2.2⟩, k1, k2, k3, k4⟩ fun b o q nf => ?_
  · rcases kts_mem hm with z | z
    · have := kts_self F
      rw [z] at q
      have := T.other L o q (fun w => nm (by rw [z]; exact w))
      rw [kts_self F] at this; cases this
    · exact nm z
  · cases z : g.get? q.1 with
    | none => rfl
    | some o =>
      obtain ⟨sl, hs⟩ := T.up z
      have := (hl q hq).2.1
      rw [hs] at this; cases this
  · obtain ⟨sl, hs⟩ := T.up q
    obtain ⟨sl', hs'⟩ := (U.trans U') b _ hs nf
    exact ⟨sl', hs'⟩
end

end
section
theorem bga_kind : builtinKind "BaseException.__getattribute__" = some .slot := by decide +kernel
theorem bga_split : splitId "BaseException.__getattribute__" = some ("BaseException", "__getattribute__") := by decide +kernel
theorem bga_bind (self : Value) : bindSpecial (.builtin "BaseException.__getattribute__") self = pure (.builtin "BaseException.__getattribute__", [self]) := by
  have hop : withoutEnding? "BaseException.__getattribute__" "#opaque" = none := by decide +kernel
  have hdat : withoutEnding? "BaseException.__getattribute__" "#data" = none := by decide +kernel
  simp only [bindSpecial, typeOf, builtinType, hop, hdat, bga_kind]; rfl
theorem bga_check {M : Model} {A : Around} {E : Value → Shared → Prop} {h : Heap} {g : Array GenState} {d : PySem.Drawn} {t : Nat} {os : OsState} {x C : Addr} {ox : Obj} {nameV : Value} {Q : Unit → Shared → Prop} (c : ExcCl C h) (hx : h.get? x = some ox) (hc : ox.cls = .ref C) (hq : Q () ⟨h, g, d, t, os⟩) :
    wpAny M A (checkBuiltinCall "BaseException.__getattribute__" ⟨[.ref x, nameV], []⟩) Q E ⟨h, g, d, t, os⟩ := by
  obtain ⟨bm, nm, q, N, bs, hdct, sn, sub, ab, col, dd, k0, k1, k2, k3, k5, hC, c1, c2, c3, c4⟩ := c.obj
  have hcB : (Value.ref C :: bm).contains (.type "BaseException") = true := by rw [List.contains_cons, c2, Bool.or_true]
  have ha := PySem.F.args_bexc_ga (.ref x) nameV
  simp only [checkBuiltinCall, bga_kind, bga_split]
  refine wpAny_bind ?_
  unfold isInstance
  repeat (first | (with_reducible refine wpAny_loadPart_at hx ?_; rw [hc]) | (with_reducible refine wpAny_isSubtype_exc hC ?_; rw [hcB]) | wp_step)
  exact hq
theorem bga_plain : plainId "BaseException.__getattribute__" = true := by decide +kernel
section
variable {prog : Program} {w : World} {A : Around} {E : Value → Shared → Prop} {s : Shared} {K : Frag} {x C : Addr} {ox : Obj} {od : Option Obj} {name : Str} {expr : Bool} {Q : Value → Shared → Prop}
theorem get_excV {v : Value} (X : K.In s.heap) (I : InstAt s.heap x ox C od) (c : excK K C = true) (hga : findIn K (.ref C) "__getattribute__" = some (some (.builtin "BaseException.__getattribute__"))) (hgx : findIn K (.ref C) "__getattr__" = some none)
    (hf : findObj K C od name = some (.value v)) (hh : handedIn v = true) (h : Q v { s with toks := s.toks + 1 }) : wpAny (model prog w) A (getAttr (.ref x) name expr) Q E s := by
  obtain ⟨hp, g, d, t, os⟩ := s
  have L0 := I.type (M := model prog w)
  have L1 := looks_findIn (M := model prog w) X hga
  have L2 := looks_findIn (M := model prog w) X hgx
  have L3 := looks_find (M := model prog w) X I hf
  unfold getAttr getAttrBy
  refine wpAny_bind (wpAny_mkText (wpAny_holding (wpAny_bind (L0.at (wpAny_bind (L1.at ?_))))))
  show wpAny _ _ (if _ then _ else _) _ _ _
  rw [if_neg (by rw [show (Value.builtin "BaseException.__getattribute__" == Value.builtin "object.__getattribute__") = false from by decide +kernel, Bool.and_false]; decide)]
  unfold getAttrByItsOwn hookBefore
  rw [if_pos (show onTheHeap (.ref C) = true from rfl)]
  refine wpAny_bind (L2.at ?_)
  refine wpAny_bind (wpAny_attempt (wpAny_holding ?_))
  unfold callGetattribute
  rw [if_neg (by cases expr <;> decide)]
  unfold boundAndCalled
  rw [bga_bind]
  refine wpAny_bind (wpAny_pure ?_)
  refine wpAny_call (codeAny_call_builtin bga_plain PySem.F.entry_bexc_ga (bga_check (excK_of X c) I.at_ I.cls ?_))
  unfold Builtin.«object.__getattribute__»
  refine wpAny_bind (wpAny_pure ?_)
  refine wpAny_bind (wpAny_pure (wpAny_bind (L0.at (wpAny_bind (L3.at ?_)))))
  refine wpAny_pure ?_
  show wpAny _ _ (handedOut v) _ _ _
  rw [handedOut_of hh]; exact wpAny_pure h
end
theorem get_exc {prog : Program} {w : World} {A : Around} {E : Value → Shared → Prop} {s : Shared} {K : Frag} {h₀ : Heap} {L x dx C : Addr} {m : Str → Option Value} {name : Str} {news : List (Addr × Obj)} {ox : Obj} {es : List DictEntry} {n : Nat} {vs : Array Value} {v : Value} {c : Option Value}
    {expr : Bool} {Q : Value → Shared → Prop} {attr : Option Value} (F : Fr h₀ L s.heap m) (X₀ : K.In h₀) (N : News h₀ L s.heap news) (hm : (x, ox) ∈ news) (hm2 : (dx, dictOf es n) ∈ news) (hc : ox.cls = .ref C) (hk : keyOf ox = (some dx, c)) (hd : ox.data = .fields vs)
    (cK : excK K C = true) (hga : findIn K (.ref C) "__getattribute__" = some (some (.builtin "BaseException.__getattribute__"))) (hgx : findIn K (.ref C) "__getattr__" = some none) (hh : hasDictIn K C = true)
    (ha : findIn K (.ref C) name = some attr) (hn : noGet K attr = true) (hl : getL name es = some (some v)) (hv : handedIn v = true) (h : Q v { s with toks := s.toks + 1 }) :
    wpAny (model prog w) A (getAttr (.ref x) name expr) Q E s :=
  get_excV (X₀.keeps F.keep) (ox := ox) (od := some (dictOf es n)) ⟨(N _ hm).1, hc, by unfold notCls; rw [hd], by rw [show ox.dict = some dx from congrArg Prod.fst hk]; exact (N _ hm2).1⟩ cK hga hgx (findObj_own hh ha hn hl) hv h
theorem thrownH_ {E : Value → Shared → Prop} {s₁ : Shared} {K : Frag} {h₀ : Heap} {L : Addr} {m : Str → Option Value} {news news' : List (Addr × Obj)} {e e1 C tu : Addr} {dd dd1 : Option Addr} {o1 : Obj} {vs1 : Array Value} (F : Fr h₀ L s₁.heap m) (X : K.In h₀) (N : News h₀ L s₁.heap news)
    (hm : (e1, o1) ∈ news) (c : excK K C = true) (hne : e1 ≠ e) (hd1 : o1.data = .fields vs1) (hk1 : keyOf o1 = (dd1, some .none))
    (U : Upd e (excObj C tu dd) ({ cls := .ref C, dict := dd, data := .fields #[.ref tu, .none, .ref e1, .none, .bool false, .none] } : Obj) news news')
    (h : ∀ h', Fr h₀ L h' m → News h₀ L h' news' → E (.ref e) { s₁ with heap := h' }) : ThrownH e1 E (.ref e) s₁ := by
  obtain ⟨pre, post, e₁, e₂, n1, n2⟩ := U.split
  have hme : (e, excObj C tu dd) ∈ news := by rw [e₁]; simp
  rw [e₁] at N
  obtain ⟨F', N'⟩ := news_upd (f := Obj.mapFields (·.setIfInBounds 2 (.ref e1))) F N n1 n2 (o' := ({ cls := .ref C, dict := dd, data := .fields #[.ref tu, .none, .ref e1, .none, .bool false, .none] } : Obj)) rfl rfl
  rw [← e₁] at N
  rw [← e₂] at N'
  refine ⟨e, C, tu, dd, o1, vs1, rfl, excK_of (X.keeps F.keep) c, (N _ hme).1, hne, (N _ hm).1, hd1, ?_, h _ F' N'⟩
  have := congrArg Prod.snd hk1
  unfold keyOf fld2 at this
  rw [hd1] at this
  exact this

end
section
theorem sp_use (w : World) (mean : ExcName → Option Value) (mg mb : Str → Option Value) (l : Addr)
    {a1 b1 : Int} {ta tb : Tok} {n : Nat} {news : List (Addr × Obj)} {news' : Int → Tok → Int → Tok → Nat → List (Addr × Obj)}
    {dp un : Nat} {gd : Option (List Code)} {cn : Str} {cs : Scope} {a : Addr} {ccd : Value} {cl : List (Str × Addr)} {outer : List Env} {A₀ : Around} {base h₀ : Heap} {L : Addr} {m : Str → Option Value} {s : Shared} {Q E : Value → Shared → Prop}
    (B : Below A₀ base outer h₀) (F : Fr h₀ L s.heap m) (X : (hd.heap_39 w.params).In h₀) (N : News h₀ L s.heap news) (TT : Top hd.view_39 (looseW hd.view_39 [Str.ofString "MOST_VALUE", Str.ofString "fraction"]) mean mg mb h₀) (hck : cs.kind = .function)
    (Up : ∀ a2 t2 b2 t3 n2, Upd l (listOf #[.int a1 ta, .int b1 tb] n) (listOf #[.int a2 t2, .int b2 t3] n2) news (news' a2 t2 b2 t3 n2)) (ha : 0 ≤ a1) (hb : 0 ≤ b1) (hb2 : b1 < 2147483647)
    (hdp : dp + 12 < recursionLimit) (hun : un + 140 < cLine)
    (hret : ∀ i y z tw tp tq a2 t2 b2 t3 n2 h' tk', i < 9 → 0 ≤ a2 → 0 ≤ b2 → b2 < 2147483647 → Fr h₀ L h' m →
      News h₀ L h' ((y, ({ cls := .type "tuple", data := .seq #[.str (wdS i) tw, .ref z] } : Obj)) :: (z, ({ cls := .type "tuple", data := .seq #[.int (wdN i).1 tp, .int (wdN i).2 tq] } : Obj)) :: news' a2 t2 b2 t3 n2) →
      (∀ p ∈ news, p.1 < z) → @LT.lt Nat _ z y → Q (.ref y) { s with heap := h', toks := tk' }) :
    wpAny (model PySem.Challenge.rw_xm0729_01.row.prog w) (ktrTop dp un gd cn cs L a ccd cl outer) (call (.ref 281) [.ref l]) Q E s := by
  obtain ⟨pre, post, e1, _, n1, n2⟩ := (Up a1 ta b1 tb n).split
  have hne : ∀ p ∈ pre ++ post, p.1 ≠ l := fun p hp => (List.mem_append.mp hp).elim (n1 p) (n2 p)
  refine c_spelled w mean mg mb l (pre ++ post) a1 b1 ta tb n hne ha hb hb2 dp un gd cn cs a ccd cl outer A₀ base h₀ L m s Q E B F X (fun p hp => N p ?_) TT hck hdp hun fun i y z tw tp tq a2 t2 b2 t3 n2 h' tk' hi q1 q2 q3 F' N' b1 b2' b3 => hret i y z tw tp tq a2 t2 b2 t3 n2 h' tk' hi q1 q2 q3 F' (fun p hp' => N' p ?_) ?_ b3
  · rw [e1]
    rcases List.mem_cons.mp hp with rfl | hp
    · exact List.mem_append_right _ (.head _)
    · rcases List.mem_append.mp hp with hp | hp
      · exact List.mem_append_left _ hp
      · exact List.mem_append_right _ (.tail _ hp)
  · obtain ⟨pre', post', e1', e2', n1', n2'⟩ := (Up a2 t2 b2 t3 n2).split
    obtain ⟨ep, eo⟩ : pre' = pre ∧ post' = post := upd_same (e1'.symm.trans e1) n1' n1
    subst ep eo
    rcases List.mem_cons.mp hp' with rfl | hp'
    · exact .head _
    · rcases List.mem_cons.mp hp' with rfl | hp'
      · exact .tail _ (.head _)
      · rw [e2'] at hp'
        rcases List.mem_append.mp hp' with hp' | hp'
        · exact .tail _ (.tail _ (.tail _ (List.mem_append_left _ hp')))
        · rcases List.mem_cons.mp hp' with rfl | hp'
          · exact .tail _ (.tail _ (.head _))
          · exact .tail _ (.tail _ (.tail _ (List.mem_append_right _ hp')))
  · intro p hp
    rw [e1] at hp
    rcases List.mem_append.mp hp with hp | hp
    · exact (b1 p (List.mem_append_left _ hp)).2
    · rcases List.mem_cons.mp hp with rfl | hp
      · exact b2'
      · exact (b1 p (List.mem_append_right _ hp)).2
/-- texts side by side with their values -/
inductive StrsL : List Value → List Str → Prop
  | nil : StrsL [] []
  | cons {g : Str} {t : Tok} {vs : List Value} {gs : List Str} : StrsL vs gs → StrsL (.str g t :: vs) (g :: gs)
theorem strs_of {vs : List Value} {gs : List Str} (h : StrsL vs gs) : ∀ {i : Nat} {r : Value}, vs[i]? = some r → ∃ g t, r = .str g t ∧ g ∈ gs := by
  induction h with
  | nil => intro i r e; simp at e
  | cons _ ih =>
    intro i r e
    cases i with
    | zero => simp at e; exact ⟨_, _, e.symm, .head _⟩
    | succ i =>
      rw [List.getElem?_cons_succ] at e
      obtain ⟨g, t, h1, h2⟩ := ih e
      exact ⟨g, t, h1, .tail _ h2⟩

end
section
/-- the gap ahead of word i, behind word j (or none) -/
def GapOk (prev : Option Nat) (g : Str) (i : Nat) : Prop := match prev with
  | none => g = Str.ofString ""
  | some j => g ∈ [Str.ofString " ", Str.ofString ",", Str.ofString "\t, \n", Str.ofString "\x0c", Str.ofString " , "] ∨ (g = Str.ofString "" ∧ apartB (wdS j) (wdS i) = true)
/-- a text that _law_drawn makes, with its words -/
inductive Drawn : Str → List Nat → Prop
  | start {p : Str} : p ∈ [Str.ofString "", Str.ofString " ", Str.ofString "\n\t"] → Drawn p []
  | add {T g : Str} {js : List Nat} {i : Nat} : Drawn T js → i < 9 → GapOk js.getLast? g i → Drawn (T ++ g ++ wdS i) (js ++ [i])
/-- the last word, or nothing -/
def lastS (js : List Nat) : Str := match js.getLast? with
  | none => Str.ofString ""
  | some j => wdS j
/-- the tuple that says number i -/
def NumAt (news : List (Addr × Obj)) (v : Value) (i : Nat) : Prop := ∃ z tp tq, v = .ref z ∧ (z, ({ cls := .type "tuple", data := .seq #[.int (wdN i).1 tp, .int (wdN i).2 tq] } : Obj)) ∈ news
inductive Nums (news : List (Addr × Obj)) : List Value → List Nat → Prop
  | nil : Nums news [] []
  | snoc {v : Value} {i : Nat} {vs : List Value} {js : List Nat} : Nums news vs js → NumAt news v i → Nums news (vs ++ [v]) (js ++ [i])
theorem Nums.mono {news news' : List (Addr × Obj)} {vs : List Value} {js : List Nat} (h : Nums news vs js) (hs : ∀ p ∈ news, p ∈ news') : Nums news' vs js := by
  induction h with
  | nil => exact .nil
  | snoc _ hv ih =>
    obtain ⟨z, tp, tq, e, hm⟩ := hv
    exact .snoc ih ⟨z, tp, tq, e, hs _ hm⟩
theorem Nums.len {news : List (Addr × Obj)} {vs : List Value} {js : List Nat} (h : Nums news vs js) : vs.length = js.length := by
  induction h with
  | nil => rfl
  | snoc _ _ ih => simp [ih]
theorem wdS_len {i : Nat} (h : i < 9) : 1 ≤ (wdS i).length ∧ (wdS i).length ≤ 4 := by
  have : i = 0 ∨ i = 1 ∨ i = 2 ∨ i = 3 ∨ i = 4 ∨ i = 5 ∨ i = 6 ∨ i = 7 ∨ i = 8 := by omega
  rcases this with rfl | rfl | rfl | rfl | rfl | rfl | rfl | rfl | rfl <;> decide +kernel
theorem gap_len {pr : Option Nat} {g : Str} {i : Nat} (h : GapOk pr g i) : g.length ≤ 4 := by
  unfold GapOk at h
  cases pr with
  | none => rw [h]; decide +kernel
  | some j =>
    rcases h with h | ⟨h, _⟩
    · simp only [List.mem_cons, List.not_mem_nil, or_false] at h
      rcases h with rfl | rfl | rfl | rfl | rfl <;> decide +kernel
    · rw [h]; decide +kernel
theorem Drawn.len {T : Str} {js : List Nat} (h : Drawn T js) : T.length ≤ 2 + 8 * js.length := by
  induction h with
  | start hp =>
    simp only [List.mem_cons, List.not_mem_nil, or_false] at hp
    rcases hp with rfl | rfl | rfl <;> decide +kernel
  | add _ hi hg ih =>
    have h1 := wdS_len hi
    have h2 := gap_len hg
    rw [Str.length_append, Str.length_append, List.length_append, List.length_cons, List.length_nil]
    omega
theorem Drawn.all {T : Str} {js : List Nat} (h : Drawn T js) : ∀ i ∈ js, i < 9 := by
  induction h with
  | start _ => intro i h; cases h
  | add _ hi _ ih =>
    intro i h
    rcases List.mem_append.mp h with h | h
    · exact ih i h
    · rw [List.mem_singleton.mp h]; exact hi
theorem lastS_len {T : Str} {js : List Nat} (h : Drawn T js) : (lastS js).length ≤ 4 := by
  unfold lastS
  cases e : js.getLast? with
  | none => decide +kernel
  | some j => exact (wdS_len (h.all j (List.mem_of_getLast? e))).2

end
section
open PyProof.V PySem.Spec in
/-- a frame's map that says ps, and else what m₀ says, but for the stored names -/
structure MapIs (m m₀ : Str → Option Value) (stored : List Str) (ps : List (Str × Value)) : Prop where
  on : ∀ p ∈ ps, m p.1 = some p.2
  off : ∀ z, (∀ p ∈ ps, z ≠ p.1) → stored.contains z = false → m z = m₀ z
theorem MapIs.fr {m m₀ : Str → Option Value} {stored : List Str} {ps : List (Str × Value)} (M : MapIs m m₀ stored ps) {h₀ h : Heap} {L : Addr} (F : Fr h₀ L h m) : Fr h₀ L h (kstB (fun z => if stored.contains z then m z else m₀ z) ps) := ksw_fr M.on M.off F
theorem MapIs.put {m m₀ : Str → Option Value} {stored : List Str} {ps : List (Str × Value)} {x : Str} {v : Value} (M : MapIs m m₀ stored ps) (hx : stored.contains x = true) (hp : ∀ p ∈ ps, p.1 ≠ x) : MapIs (fun y => if y = x then some v else m y) m₀ stored ps where
  on := fun p hq => by rw [if_neg (hp p hq)]; exact M.on p hq
  off := fun z h1 h2 => by
    have : z ≠ x := fun e => by rw [e, hx] at h2; cases h2
    rw [if_neg this]; exact M.off z h1 h2
section
variable {prog : Program} {w : World} {A : Around} {E : Value → Shared → Prop} {s : Shared} {env : Env} {h₀ : Heap} {x : Str} {body : List Stmt} {Q : Flow → Shared → Prop} {I : Addr} {a : Int} {n : Nat}
theorem range_st {σ : Type} (ps : σ → List (Str × Value)) (stored : List Str) (m₀ : Str → Option Value) (Led : σ → List (Addr × Obj)) (P : Nat → σ → Prop) (hxs : stored.contains x = true) (hxp : ∀ c, ∀ p ∈ ps c, p.1 ≠ x)
    (turn : ∀ i c (u : Str → Option Value) h tk it, P i c → i < n → (∀ p ∈ Led c, p.1 ≠ I) → Fr h₀ env.locals h (kstB (fun z => if stored.contains z then u z else m₀ z) (ps c)) → News h₀ env.locals h ((I, it) :: Led c) →
      wpAny (model prog w) A (execs body env) (UnrPost h₀ env.locals { s with heap := h, toks := tk } I it (fun m' news' => ∃ c', P (i + 1) c' ∧ MapIs m' m₀ stored (ps c') ∧ ∀ p ∈ Led c', p ∈ news') Q) E { s with heap := h, toks := tk })
    (done : ∀ c (u : Str → Option Value) h tk, P n c → Fr h₀ env.locals h (kstB (fun z => if stored.contains z then u z else m₀ z) (ps c)) → News h₀ env.locals h (Led c) → Q .next { s with heap := h, toks := tk }) :
    ∀ k i m news, i + k = n → (∃ c, P i c ∧ MapIs m m₀ stored (ps c) ∧ ∀ p ∈ Led c, p ∈ news) → (∀ p ∈ news, p.1 ≠ I) → RangeRest prog w A E h₀ env x body Q s I a n k i m news := by
  intro k
  induction k with
  | zero =>
    rintro i m news e ⟨c, hP, hM, hL⟩ hI h tk F N
    obtain rfl : i = n := by omega
    exact done c m h tk hP (hM.fr F) fun p hp => N p (hL p hp)
  | succ k ih =>
    rintro i m news e ⟨c, hP, hM, hL⟩ hI t h tk F N
    have F' := (hM.put (v := .int (a + (i : Int)) t) hxs (hxp c)).fr F
    refine wpAny_mono (turn i c _ h tk (itR (a + ((i + 1 : Nat) : Int)) ((n : Int) - ((i + 1 : Nat) : Int))) hP (by omega) (fun p hp => hI p (hL p hp)) F' (fun p hp => N p ?_)) (fun f s₂ q => ?_) fun _ _ y => y
    · rcases List.mem_cons.mp hp with rfl | hp
      · exact .head _
      · exact .tail _ (hL p hp)
    · have fin : ∀ s₂, UnrEnd h₀ env.locals { s with heap := h, toks := tk } I (itR (a + ((i + 1 : Nat) : Int)) ((n : Int) - ((i + 1 : Nat) : Int))) (fun m' news' => ∃ c', P (i + 1) c' ∧ MapIs m' m₀ stored (ps c') ∧ ∀ p ∈ Led c', p ∈ news') s₂ →
          UnrEnd h₀ env.locals { s with heap := h, toks := tk } I (itR (a + ((i + 1 : Nat) : Int)) ((n : Int) - ((i + 1 : Nat) : Int))) (RangeRest prog w A E h₀ env x body Q s I a n k (i + 1)) s₂ := by
        rintro s₂ ⟨h', tk', m', news', e', F₂, N₂, hoff, hc⟩
        exact ⟨h', tk', m', news', e', F₂, N₂, hoff, ih (i + 1) m' news' (by omega) hc hoff⟩
      cases f with
      | ret v => exact q
      | brk => exact q
      | next => exact fin _ q
      | cont => exact fin _ q
end

end
section
theorem len_of_mem {gs : List Str} {g : Str} (h : g ∈ gs) (n : Nat) (ha : gs.all (fun g => decide (g.length ≤ n)) = true) : g.length ≤ n := of_decide_eq_true (List.all_eq_true.mp ha g h)

end
section
structure DSt where
  T : Str
  js : List Nat
  vs : List Value
  t1 : Tok
  t2 : Tok
  a1 : Int
  b1 : Int
  ta : Tok
  tb : Tok
  n : Nat
  nf : Nat
  own : List (Addr × Obj)
def PD (rest : List (Addr × Obj)) (l lf : Addr) (i : Nat) (c : DSt) : Prop := Drawn c.T c.js ∧ c.js.length = i ∧ Nums c.own c.vs c.js ∧ 0 ≤ c.a1 ∧ 0 ≤ c.b1 ∧ c.b1 < 2147483647 ∧ (∀ p ∈ rest, p ∈ c.own) ∧ (∀ p ∈ c.own, p.1 ≠ l) ∧ (∀ p ∈ c.own, p.1 ≠ lf)
theorem lastS_snoc {js : List Nat} {i : Nat} : lastS (js ++ [i]) = wdS i := by simp [lastS]
theorem drawn_end {h₀ h' : Heap} {L' I D x1 x2 y z lf l : Addr} {it oD o1 o2 oy ol olf : Obj} {s₁ : Shared} {tk : Nat} {m' m₀ : Str → Option Value} {rest own : List (Addr × Obj)} {vs : List Value} {js : List Nat} {T g : Str} {i i8 : Nat} {t1 t2 ta tb t2' t3' tp tq u1 u2 : Tok} {a1 b1 a2 b2 : Int} {n nf n2 nf2 : Nat}
    (F : Fr h₀ L' h' m') (N : News h₀ L' h' ((D, oD) :: (x1, o1) :: (x2, o2) :: (y, oy) :: (z, ({ cls := .type "tuple", data := .seq #[.int (wdN i8).1 tp, .int (wdN i8).2 tq] } : Obj)) :: (I, it) :: (lf, listOf (vs ++ [Value.ref z]).toArray nf2) :: (l, listOf #[.int a2 t2', .int b2 t3'] n2) :: own))
    (hP : PD rest l lf i ⟨T, js, vs, t1, t2, a1, b1, ta, tb, n, nf, own⟩) (hi : i8 < 9) (hg : GapOk js.getLast? g i8) (q1 : 0 ≤ a2) (q2 : 0 ≤ b2) (q3 : b2 < 2147483647)
    (hz : I < z ∧ @LT.lt Nat _ lf z ∧ @LT.lt Nat _ l z ∧ AllLt z own) (hI : ∀ p ∈ (lf, olf) :: (l, ol) :: own, p.1 ≠ I)
    (on1 : m' (Str.ofString "text") = some (.str (T ++ g ++ wdS i8) u1)) (on2 : m' (Str.ofString "last") = some (.str (wdS i8) u2))
    (off : ∀ x, x ≠ Str.ofString "text" → x ≠ Str.ofString "last" → [Str.ofString "turn", Str.ofString "word", Str.ofString "number", Str.ofString "gap"].contains x = false → m' x = m₀ x) :
    UnrEnd h₀ L' s₁ I it (fun m' news' => ∃ c' : DSt, PD rest l lf (i + 1) c' ∧ MapIs m' m₀ [Str.ofString "turn", Str.ofString "word", Str.ofString "number", Str.ofString "gap"] [(Str.ofString "text", .str c'.T c'.t1), (Str.ofString "last", .str (lastS c'.js) c'.t2)] ∧
      ∀ p ∈ (lf, listOf c'.vs.toArray c'.nf) :: (l, listOf #[.int c'.a1 c'.ta, .int c'.b1 c'.tb] c'.n) :: c'.own, p ∈ news') { s₁ with heap := h', toks := tk } := by
  obtain ⟨hD, hl, hN, h1, h2, h3, hr, hol, holf⟩ := hP
  dsimp only at hD hl hN h1 h2 h3 hr hol holf
  have hlf : lf ≠ I := hI _ (.head _)
  have hll : l ≠ I := hI _ (.tail _ (.head _))
  have hzI : z ≠ I := (Nat.ne_of_lt hz.1).symm
  refine UnrEnd.intro F N ((lf, listOf (vs ++ [Value.ref z]).toArray nf2) :: (l, listOf #[.int a2 t2', .int b2 t3'] n2) :: (z, ({ cls := .type "tuple", data := .seq #[.int (wdN i8).1 tp, .int (wdN i8).2 tq] } : Obj)) :: own) ?_ ?_ ⟨⟨T ++ g ++ wdS i8, js ++ [i8], vs ++ [Value.ref z], u1, u2, a2, b2, t2', t3', n2, nf2, (z, ({ cls := .type "tuple", data := .seq #[.int (wdN i8).1 tp, .int (wdN i8).2 tq] } : Obj)) :: own⟩, ⟨.add hD hi hg, ?_, .snoc (hN.mono fun p hp => .tail _ hp) ⟨z, tp, tq, rfl, .head _⟩, q1, q2, q3, fun p hp => .tail _ (hr p hp), ?_, ?_⟩, ⟨?_, ?_⟩, fun p hp => hp⟩
  · intro p hp
    refine .tail _ (.tail _ (.tail _ (.tail _ ?_)))
    rcases List.mem_cons.mp hp with rfl | hp
    · exact .tail _ (.head _)
    · rcases List.mem_cons.mp hp with rfl | hp
      · exact .tail _ (.tail _ (.head _))
      · rcases List.mem_cons.mp hp with rfl | hp
        · exact .tail _ (.tail _ (.tail _ (.head _)))
        · rcases List.mem_cons.mp hp with rfl | hp
          · exact .head _
          · exact .tail _ (.tail _ (.tail _ (.tail _ hp)))
  · intro p hp
    simp only [List.mem_cons] at hp
    rcases hp with rfl | rfl | rfl | hp
    · exact hlf
    · exact hll
    · exact hzI
    · exact hI p (.tail _ (.tail _ hp))
  · show (js ++ [i8]).length = i + 1
    rw [List.length_append, hl]; rfl
  · intro p hp
    rcases List.mem_cons.mp hp with rfl | hp
    · exact (Nat.ne_of_lt hz.2.2.1).symm
    · exact hol p hp
  · intro p hp
    rcases List.mem_cons.mp hp with rfl | hp
    · exact (Nat.ne_of_lt hz.2.1).symm
    · exact holf p hp
  · refine List.forall_mem_cons.mpr ⟨on1, List.forall_mem_cons.mpr ⟨?_, fun _ h => nomatch h⟩⟩
    show m' (Str.ofString "last") = some (.str (lastS (js ++ [i8])) u2)
    rw [lastS_snoc]
    exact on2
  · exact fun x h1 h2 => off x (h1 _ (.head _)) (h1 _ (.tail _ (.head _))) h2
theorem gap_ap {g : Str} {j i : Nat} (h1 : (g == Str.ofString "") = true) (h2 : apartB (wdS j) (wdS i) = true) : GapOk (some j) g i := .inr ⟨by simpa using h1, h2⟩
theorem gap_in {g : Str} {j i : Nat} (h : g ∈ [Str.ofString "", Str.ofString "", Str.ofString " ", Str.ofString ",", Str.ofString "\t, \n", Str.ofString "\x0c"]) (h1 : (g == Str.ofString "") = false) : GapOk (some j) g i := by
  have h2 : g ≠ Str.ofString "" := by simpa using h1
  refine .inl ?_
  simp only [List.mem_cons, List.not_mem_nil, or_false] at h ⊢
  rcases h with h | h | h | h | h | h
  · exact absurd h h2
  · exact absurd h h2
  · exact .inl h
  · exact .inr (.inl h)
  · exact .inr (.inr (.inl h))
  · exact .inr (.inr (.inr (.inl h)))
theorem last_snoc {js : List Nat} {i : Nat} : (js ++ [i]).getLast? = some i := by simp

end
theorem laid19 : True := by
  k_with "k_room" => ktr_room
  k_with "call builtin:len" => (k_here; (with_reducible show wpAny _ _ (call (Value.builtin "len") [Value.str _ _]) _ _ _); refine r_len (by assumption) ?_)
  k_with "subscriptTail" => (k_here; (with_reducible show wpAny _ _ (subscriptTail _ _ (Value.str _ _) (Value.int _ _)) _ _ _); refine r_item (by assumption) (by first | omega | exact Inv.nn (by assumption)) (by first | omega | (simp only [decide_eq_true_eq] at *; omega)) ?_)
  k_with "compareOp In str str" => (k_here; (with_reducible show wpAny _ _ (compareOp CmpOp.In (Value.str (one _) _) (Value.str _ _)) _ _ _); first | refine r_inB ?_ | refine r_inD ?_ | refine r_in ?_)
  k_with "subscriptTail" => (k_here; (with_reducible show wpAny _ _ (subscriptTail _ (Expr.Slice (some _) (some _) none _) (Value.str _ _) (Value.ref _)) _ _ _); (with_reducible rename Fr _ _ _ _ => F'); (with_reducible rename News _ _ _ _ => N'); (first | (refine r_pk (s := ⟨_, _, _, _, _⟩) F' N' (by assumption) (by omega) ?_) | (refine r_part (s := ⟨_, _, _, _, _⟩) F' N' (by assumption) (by omega) (by first | omega | exact Inv.le (by assumption)) ?_)); intro _ _ _ _ _)
  k_with "compareOp Eq str str" => (k_here; (with_reducible show wpAny _ _ (compareOp CmpOp.Eq (Value.str (pk _ _) _) (Value.str _ _)) _ _ _); first | refine r_eq (pk_comma _ _) ?_ | refine r_eq (pk_dot _ _) ?_ | refine r_eq (pk_none _ _) ?_)
  k_with "compareOp NotEq str str" => (k_here; (with_reducible show wpAny _ _ (compareOp CmpOp.NotEq (Value.str (pk _ _) _) (Value.str _ _)) _ _ _); first | refine r_ne (pk_comma _ _) ?_ | refine r_ne (pk_dot _ _) ?_ | refine r_ne (pk_none _ _) ?_)
  k_with "k_all" => assumption
  k_with "compareOp In str str" => (k_here; (with_reducible show wpAny _ _ (compareOp CmpOp.In (Value.str (pk _ _) _) (Value.str _ _)) _ _ _); refine r_inL (by assumption) ?_)
  k_with "ktr_room" => ((try simp only [depth_under_make, depth_under_kw, depth_in1, depth_deeper, depth_caller]); (try dsimp only [ktrTop]); first | exact roomG (by assumption) (by decide) | exact roomA (by assumption) (by decide) | exact roomZ (by assumption))
  k_with "ktr_units" => ((try simp only [units_in1, units_deeper, Around.mark_units, units_caller]); (try dsimp only [ktrTop]); first | exact roomG (by assumption) (by decide) | exact roomA (by assumption) (by decide) | exact roomZ (by assumption))
  k_with "k_ne" => (refine neN ?_; (try dsimp only); first | exact neLt (by assumption) | exact neGt (by assumption) | exact neGt (And.left (by assumption)) | exact neGt (And.left (And.right (by assumption))) | exact neGt (And.left (And.right (And.right (by assumption)))) | exact neGt (And.left (And.right (And.right (And.right (by assumption))))))
  k_with "binaryOp Mod int int" => (k_here; refine r_mod (by omega) ?_; intro r9 hr9 hs9)
  k_with "binaryOp FloorDiv int int" => (k_here; refine r_div (by omega) (by omega) (by omega) ?_; intro r9 hr9 hs9)
  k_with "binaryOp Mult int int" => (k_here; refine r_mul (by omega) (by omega) (by omega) ?_; intro r9 hr9)
  k_with "subscriptTail Name Constant ref int" => (k_here; (with_reducible show wpAny _ _ (subscriptTail _ _ (Value.ref _) (Value.int _ _)) _ _ _); k_dflt (refine' r_li ?hzN ?hzm ?hza ?hzb ?hzx ?_; (case hzN => k_asm); (case hzm => k_mem); (case hza => decide); (case hzb => decide); (case hzx => rfl)))
  trivial
section
set_option maxHeartbeats 4000000 in
theorem c_pool (w : World) (mean : ExcName → Option Value) (mg mb : Str → Option Value) (l : Addr) (rest : List (Addr × Obj)) (vs : List Value) (ns : List Int) (hI : IntsAre vs ns) (hz : ns.length ≤ 63) :
    ∀ (dp un : Nat) (gd : Option (List Code)) (cn : Str) (cs : Scope) (a : Addr) (ccd : Value) (cl : List (Str × Addr)) (outer : List Env) (A₀ : Around) (base h₀ : Heap) (L : Addr) (m : Str → Option Value) (s : Shared) (Q E : Value → Shared → Prop), Below A₀ base outer h₀ → Fr h₀ L s.heap m → (hd.heap_39 w.params).In h₀ → News h₀ L s.heap (rest) → Top hd.view_39 (looseW hd.view_39 [Str.ofString "MOST_VALUE", Str.ofString "fraction"]) mean mg mb h₀ → cs.kind = .function → dp + 8 < recursionLimit → un + 60 < cLine →  h₀.IsList l vs.toArray →
    (∀ z a1 b1 ta tb n h' tk', 0 ≤ a1 → 0 ≤ b1 → b1 < 2147483647 → Fr h₀ L h' m → News h₀ L h' ((z, listOf #[.int a1 ta, .int b1 tb] n) :: rest) → (∀ p ∈ rest, p.1 < z) → Q (.ref z) { s with heap := h', toks := tk' }) →
    wpAny (model PySem.Challenge.rw_xm0729_01.row.prog w) (ktrTop dp un gd cn cs L a ccd cl outer) (call (.ref 260) [.ref l]) Q E s := by
  k_fill
  intro dp un gd cn cs a ccd cl outer A₀ base h₀ L m s Q E B F X N TT hck hdp hun hlist hret
  refine wpAny_call ?_
  k_dflt cell_enter
  (rename Fr h₀ L _ _ => FG); have hl9 := Fr.lst FG hlist
  k_steps
  all_goals (refine hret _ _ _ _ _ _ _ _ ?_ ?_ ?_ (by k_asm) (by assumption) ?_ <;> first | assumption | exact fun p hp => ktn_ltOf (by assumption) p hp)

end
theorem laid20 : True := by
  k_with "call ref" => (k_here; (try dsimp only [List.append_nil, List.cons_append, List.nil_append]); (with_reducible show wpAny _ _ (call (Value.ref 267) [Value.ref _, Value.int _ _]) _ _ _); k_dflt (refine' src_use (c_take _ _ _ _ _ _ _ ?hzht ?hzht2) ?hzB ?hzF ?hzX ?hzN ?hzT ?hzck ?hzU ?hzha ?hzhb ?hzhb2 ?hzneed ?hzdp ?hzun ?_; (case hzB => k_asm); (case hzF => k_asm); (case hzX => k_asm); (case hzN => k_asm); (case hzT => k_asm); (case hzck => first | exact rfl | assumption); (case hzU => intro a2 t2 b2 t3 n2; k_upd); (case hzneed => exact fun _ h => nomatch h); (case hzht => omega); (case hzht2 => omega); (case hzha => first | assumption | omega); (case hzhb => first | assumption | omega); (case hzhb2 => first | assumption | omega); (case hzdp => ktr_room); (case hzun => ktr_units)); intro r' a2 t2 b2 t3 n2 h' tk' hP' ha2 hb2 hb3 F' N'; obtain ⟨r9, t9, hr', hr9, hs9⟩ := hP'; subst hr'; (try k_sweep))
  k_with "call ref" => (k_here; (try dsimp only [List.append_nil, List.cons_append, List.nil_append]); (with_reducible show wpAny _ _ (call (Value.ref 274) [Value.ref _, Value.ref _]) _ _ _); k_dflt (refine' src_use (c_one _ _ _ _ _ _ _ _ ?hzh1 ?hzh2) ?hzB ?hzF ?hzX ?hzN ?hzT ?hzck ?hzU ?hzha ?hzhb ?hzhb2 ?hzneed ?hzdp ?hzun ?_; (case hzB => k_asm); (case hzF => k_asm); (case hzX => k_asm); (case hzN => k_asm); (case hzT => k_asm); (case hzck => first | exact rfl | assumption); (case hzU => intro a2 t2 b2 t3 n2; k_upd); (case hzneed => (intro p hp; rw [List.mem_singleton.mp hp]; exact ⟨by k_mem, by k_ne⟩)); (case hzh1 => first | decide | (simp; done)); (case hzh2 => first | decide | (simp; done)); (case hzha => first | assumption | omega); (case hzhb => first | assumption | omega); (case hzhb2 => first | assumption | omega); (case hzdp => ktr_room); (case hzun => ktr_units)); intro r' a2 t2 b2 t3 n2 h' tk' hP' ha2 hb2 hb3 F' N'; obtain ⟨i9, hi9, hv9⟩ := hP'; obtain ⟨g9, tg9, hr9, hg9⟩ := strs_of (by repeat constructor) hv9; subst hr9; clear hv9 hi9; have zg9 := len_of_mem hg9 9 (by decide +kernel); (try k_sweep))
  k_with "call ref" => (k_here; (try dsimp only [List.append_nil, List.cons_append, List.nil_append]); (with_reducible show wpAny _ _ (call (Value.ref 281) [Value.ref _]) _ _ _); k_dflt (refine' sp_use _ _ _ _ _ ?hzB ?hzF ?hzX ?hzN ?hzT ?hzck ?hzU ?hzha ?hzhb ?hzhb2 ?hzdp ?hzun ?_; (case hzB => k_asm); (case hzF => k_asm); (case hzX => k_asm); (case hzN => k_asm); (case hzT => k_asm); (case hzck => first | exact rfl | assumption); (case hzU => intro a2 t2 b2 t3 n2; k_upd); (case hzha => first | assumption | omega); (case hzhb => first | assumption | omega); (case hzhb2 => first | assumption | omega); (case hzdp => ktr_room); (case hzun => ktr_units)); intro i8 y9 z9 tw9 tp9 tq9 a2 t2 b2 t3 n2 h' tk' hi8 ha2 hb2 hb3 F' N' l1 l2; (have zw9 := wdS_len hi8); (have l0 := l1); (try k_lt l1); (try k_sweep))
  k_with "call ref" => (k_here; (try dsimp only [List.append_nil, List.cons_append, List.nil_append]); (with_reducible show wpAny _ _ (call (Value.ref 288) [Value.str _ _, Value.str _ _]) _ _ _); k_dflt (refine' c_apart _ _ _ _ _ _ _ _ ?hzh1 ?hzh2 ?hzh3 _ _ _ _ _ _ _ _ _ _ _ _ _ _ _ _ _ _ ?hzB ?hzF ?hzX ?hzN ?hzT ?hzck ?hzdp ?hzun ?_; (case hzB => k_asm); (case hzF => k_asm); (case hzX => k_asm); (case hzN => k_asm); (case hzT => k_asm); (case hzck => first | exact rfl | assumption); (case hzh1 => omega); (case hzh2 => (unfold Short; omega)); (case hzh3 => omega); (case hzdp => ktr_room); (case hzun => ktr_units)); intro r' h' tk' hP' F' N'; subst hP'; (try k_sweep))
  trivial
section
theorem seven {r : Int} (h : 0 ≤ r) (h2 : r < 7) : r = 0 ∨ r = 1 ∨ r = 2 ∨ r = 3 ∨ r = 4 ∨ r = 5 ∨ r = 6 := by omega
theorem small7 {r : Int} (h : 0 ≤ r) (h2 : r < 7) : Builtin.Range.small 0 r 1 = true := by
  rcases seven h h2 with rfl | rfl | rfl | rfl | rfl | rfl | rfl <;> decide
theorem size7 {r : Int} (h : 0 ≤ r) (h2 : r < 7) : Builtin.Range.rangeSize 0 r 1 = (r.toNat : Int) := by
  rcases seven h h2 with rfl | rfl | rfl | rfl | rfl | rfl | rfl <;> decide
theorem wordsdrawn0 : True := by
  k_with "exec For" => (k_here; (with_reducible show wpAny _ _ (exec (Stmt.For _ _ _ [] _) _) _ _ _); (rename Fr _ _ _ _ => lF'); (with_unfolding_all refine' For_invVF lF' ?hzk1 ?hzk2 ?_; (case hzk1 => exact rfl); (case hzk2 => exact rfl); k_whole))
  k_with "pyIter ref" => ((with_reducible show wpAny _ _ (pyIter (Value.ref _)) (fun it s₂ => LoopAtV _ _ _ _ _ _ _ _ _ it s₂) _ _); (with_reducible rename IsRange _ _ _ _ _ _ _ _ => iR); (with_reducible rename Fr _ _ _ _ => lF'); (with_reducible rename News _ _ _ _ => lN'); k_here; (with_unfolding_all refine iter_rangeUnr (by rfl) iR (small7 (by assumption) (by assumption)) (size7 (by assumption) (by assumption)) lF' lN' ?_); clear lF' lN'; intro i' l1; (try k_lt l1))
  trivial
theorem r_lempty {prog : Program} {w : World} {A : Around} {E : Value → Shared → Prop} {s : Shared} {Q : Value → Shared → Prop} {h₀ : Heap} {L a c : Addr} {news : List (Addr × Obj)} {vs : List Value} {n n2 : Nat} {b : Bool} (N : News h₀ L s.heap news) (h1 : (a, listOf vs.toArray n) ∈ news) (h2 : (c, listOf #[] n2) ∈ news) (hb : vs.isEmpty = b) (hu : A.units < cLine)
    (h : Q (.bool b) s) : wpAny (model prog w) A (compareOp .Eq (.ref a) (.ref c)) Q E s := by
  cases vs with
  | nil =>
    obtain rfl : true = b := hb
    exact PySem.SeqAt.eq_listAt (e := fun _ => true) (News.isList N h1) (News.isList N h2) rfl hu (fun j h1 _ => absurd h1 (Nat.not_lt_zero _)) h
  | cons v r =>
    obtain rfl : false = b := hb
    exact PySem.SeqAt.eq_list_lengthsAt (News.isList N h1) (News.isList N h2) (by simp) hu h
theorem wordsdrawn1 : True := by
  k_with "call type:range" => (k_here; (with_reducible show wpAny _ _ (call (Value.type "range") [Value.int _ _]) _ _ _); (rename Fr _ _ _ _ => lF'); (rename News _ _ _ _ => lN'); (with_unfolding_all refine range1_rows lF' lN' ?_); clear lF' lN'; intro _ _ _ _ _ _ _ _ _)
  trivial
theorem is_snoc {α : Type} {vs : List α} {v : α} : (vs ++ [v]).isEmpty = false := by simp
theorem wordsdrawn2 : True := by
  k_with "compareOp Eq ref ref" => (k_here; (with_reducible show wpAny _ _ (compareOp CmpOp.Eq (Value.ref _) (Value.ref _)) _ _ _); k_dflt (first | (refine' r_lempty (b := true) ?hzN ?hzm1 ?hzm2 ?hze ?hzu ?_; (case hzN => k_asm); (case hzm1 => k_mem); (case hzm2 => k_mem); (case hze => first | exact rfl | exact is_snoc); (case hzu => ktr_units)) | (refine' r_lempty (b := false) ?hzN ?hzm1 ?hzm2 ?hze ?hzu ?_; (case hzN => k_asm); (case hzm1 => k_mem); (case hzm2 => k_mem); (case hze => first | exact rfl | exact is_snoc); (case hzu => ktr_units))))
  k_with "binaryOp Add" => (dsimp only; with_reducible show wpAny _ _ (binaryOp Operator.Add (Value.str _ _) (Value.str _ _)) _ _ _; fail_if_success (with_reducible show wpAny _ _ (binaryOp Operator.Add (Value.str (_ ++ _) _) (Value.str _ _)) _ _ _))
  k_with "binaryOp Add str str" => (k_here; (with_reducible show wpAny _ _ (binaryOp Operator.Add (Value.str _ _) (Value.str _ _)) _ _ _); k_dflt (refine' add_str ?_ ?hzz; (case hzz => (simp only [Str.length_append, sizeLine_eq]; omega)); intro _ _))
  k_with "call builtin:list.append" => (k_here; (with_reducible show wpAny _ _ (call (Value.builtin _) [Value.ref _, _]) _ _ _); k_dflt (refine' append_K ?hzk1 ?hzk2 ?hzk3 ?_ ?hzz; (case hzk1 => k_asm); (case hzk2 => k_asm); (case hzk3 => k_upd); (case hzz => first | size_fits | (simp only [List.size_toArray, List.length_append, List.length_cons, List.length_nil, sizeLine_eq]; omega)); k_whole); intro h' F' N'; (try k_sweep))
  trivial
set_option maxHeartbeats 8000000 in
theorem c_drawn (w : World) (mean : ExcName → Option Value) (mg mb : Str → Option Value) (l : Addr) (rest : List (Addr × Obj)) (a1 b1 : Int) (ta tb : Tok) (n : Nat) (hne : ∀ p ∈ rest, p.1 ≠ l) (ha : 0 ≤ a1) (hb : 0 ≤ b1) (hb2 : b1 < 2147483647) :
    ∀ (dp un : Nat) (gd : Option (List Code)) (cn : Str) (cs : Scope) (a : Addr) (ccd : Value) (cl : List (Str × Addr)) (outer : List Env) (A₀ : Around) (base h₀ : Heap) (L : Addr) (m : Str → Option Value) (s : Shared) (Q E : Value → Shared → Prop), Below A₀ base outer h₀ → Fr h₀ L s.heap m → (hd.heap_39 w.params).In h₀ → News h₀ L s.heap ((l, listOf #[.int a1 ta, .int b1 tb] n) :: rest) → Top hd.view_39 (looseW hd.view_39 [Str.ofString "MOST_VALUE", Str.ofString "fraction"]) mean mg mb h₀ → cs.kind = .function → dp + 16 < recursionLimit → un + 200 < cLine → 
    (∀ y lf T js vs tt nf a2 t2 b2 t3 n2 own h' tk', Drawn T js → js.length ≤ 6 → Nums own vs js → 0 ≤ a2 → 0 ≤ b2 → b2 < 2147483647 → Fr h₀ L h' m →
      News h₀ L h' ((y, ({ cls := .type "tuple", data := .seq #[.str T tt, .ref lf] } : Obj)) :: (lf, listOf vs.toArray nf) :: (l, listOf #[.int a2 t2, .int b2 t3] n2) :: own) → (∀ p ∈ rest, p ∈ own) → (∀ p ∈ own, p.1 ≠ l) → (∀ p ∈ own, p.1 ≠ lf) → @LT.lt Nat _ l lf → @LT.lt Nat _ lf y → Q (.ref y) { s with heap := h', toks := tk' }) →
    wpAny (model PySem.Challenge.rw_xm0729_01.row.prog w) (ktrTop dp un gd cn cs L a ccd cl outer) (call (.ref 295) [.ref l]) Q E s := by
  k_fill
  intro dp un gd cn cs a ccd cl outer A₀ base h₀ L m s Q E B F X N TT hck hdp hun hret
  refine wpAny_call ?_
  k_dflt cell_enter
  k_steps
  rename (_ < _ ∧ _ < _ ∧ _ < _ ∧ l < _ ∧ AllLt _ rest) => hlt
  rename (_ < _ ∧ l < _ ∧ AllLt _ rest) => hl2
  with_reducible show RangeRest _ _ _ _ _ _ _ _ _ _ _ _ _ _ _ ?m0 (_ :: (?lf, _) :: (?l0, _) :: _)
  refine range_st (σ := DSt) (fun c => [(Str.ofString "text", .str c.T c.t1), (Str.ofString "last", .str (lastS c.js) c.t2)]) [Str.ofString "turn", Str.ofString "word", Str.ofString "number", Str.ofString "gap"] ?m0 (fun c => (?lf, listOf c.vs.toArray c.nf) :: (l, listOf #[.int c.a1 c.ta, .int c.b1 c.tb] c.n) :: c.own)
    (fun i c => PD rest l ?lf i c) (by decide) ?xp ?turn ?done _ 0 _ _ (Nat.zero_add _) ⟨⟨?cT, [], [], ?ct1, ?ct2, ?ca, ?cb, ?cta, ?ctb, ?cn, ?cnf, rest⟩, ⟨?d, rfl, .nil, ?a, ?b, ?c, fun p hp => hp, hne, ?n⟩, ⟨?on, ?off⟩, List.forall_mem_cons.mpr ⟨?m1, List.forall_mem_cons.mpr ⟨?m2, ?m3⟩⟩⟩ ?i
  case m1 => k_mem
  case m2 => k_mem
  case m3 => exact fun p hp => .tail _ (.tail _ (.tail _ (.tail _ hp)))
  case d => exact Drawn.start (by assumption)
  case a => assumption
  case b => assumption
  case c => assumption
  case on =>
    refine List.forall_mem_cons.mpr ⟨?_, List.forall_mem_cons.mpr ⟨?_, fun _ h => nomatch h⟩⟩
    · show (if Str.ofString "text" = Str.ofString "text" then _ else _) = _
      rw [if_pos rfl]
    · show (if Str.ofString "last" = Str.ofString "text" then _ else if Str.ofString "last" = Str.ofString "last" then _ else _) = _
      rw [if_neg (by decide), if_pos rfl]
      rfl
  case off => exact fun z h1 h2 => rfl
  case xp => exact fun c => List.forall_mem_cons.mpr ⟨show Str.ofString "text" ≠ Str.ofString "turn" by decide, List.forall_mem_cons.mpr ⟨show Str.ofString "last" ≠ Str.ofString "turn" by decide, fun _ h => nomatch h⟩⟩
  case n => exact fun p hp => Nat.ne_of_lt (ktn_ltOf hl2.2.2 p hp)
  case i => exact List.forall_mem_cons.mpr ⟨Nat.ne_of_lt hlt.1, List.forall_mem_cons.mpr ⟨Nat.ne_of_lt hlt.2.1, List.forall_mem_cons.mpr ⟨Nat.ne_of_lt hlt.2.2.1, List.forall_mem_cons.mpr ⟨Nat.ne_of_lt hlt.2.2.2.1, fun p hp => Nat.ne_of_lt (ktn_ltOf hlt.2.2.2.2 p hp)⟩⟩⟩⟩
  case turn =>
    rintro i ⟨T, js, vs, t1, t2, a1, b1, ta, tb, n, nf, own⟩ u h tk it hP hi hI F' N'
    obtain ⟨hD, hlen, hN, ha', hb', hb2', hrest, hl', hlf'⟩ := id hP
    dsimp only at hD hlen hN ha' hb' hb2' hrest hl' hlf' hI F' N' ⊢
    have z0 : (Str.ofString "").length = 0 := rfl
    have zc : (Str.ofString " , ").length = 3 := rfl
    have zT : T.length ≤ 2 + 8 * js.length := hD.len
    have zi : i < 7 := by omega
    have zl : (lastS js).length ≤ 4 := lastS_len hD
    rcases hN with _ | ⟨hN, hv⟩
    · k_steps
      (rename News _ _ _ _ => lN'); (rename Fr _ _ _ _ => lF')
      simp only [List.push_toArray] at lN'
      refine' drawn_end lF' lN' hP (by assumption) ?_ (by assumption) (by assumption) (by assumption) (by assumption) hI ?_ ?_ ?_
      rotate_left 4
      · rw [if_pos rfl]
      · rw [if_neg (show ¬ Str.ofString "last" = Str.ofString "text" by decide), if_pos rfl]
      · intro x e1 e2 h2
        have e3 : x ≠ Str.ofString "gap" := fun e => by subst e; exact absurd h2 (by decide)
        have e4 : x ≠ Str.ofString "turn" := fun e => by subst e; exact absurd h2 (by decide)
        have e5 : x ≠ Str.ofString "word" := fun e => by subst e; exact absurd h2 (by decide)
        have e6 : x ≠ Str.ofString "number" := fun e => by subst e; exact absurd h2 (by decide)
        simp only [kstB, if_neg e1, if_neg e2, if_neg e3, if_neg e4, if_neg e5, if_neg e6, h2, Bool.false_eq_true, if_false]
      · exact rfl
    · have zl3 := zl; rw [lastS_snoc] at F' zl
      have zv := hN.len
      have zj := hlen; rw [List.length_append, List.length_cons, List.length_nil] at zj
      k_steps
      all_goals (
      (rename News _ _ _ _ => lN'); (rename Fr _ _ _ _ => lF')
      simp only [List.push_toArray] at lN'
      refine' drawn_end lF' lN' hP (by assumption) ?_ (by assumption) (by assumption) (by assumption) (by assumption) hI ?_ ?_ ?_
      rotate_left 4
      · rw [if_pos rfl]
      · rw [if_neg (show ¬ Str.ofString "last" = Str.ofString "text" by decide), if_pos rfl]
      · intro x e1 e2 h2
        have e3 : x ≠ Str.ofString "gap" := fun e => by subst e; exact absurd h2 (by decide)
        have e4 : x ≠ Str.ofString "turn" := fun e => by subst e; exact absurd h2 (by decide)
        have e5 : x ≠ Str.ofString "word" := fun e => by subst e; exact absurd h2 (by decide)
        have e6 : x ≠ Str.ofString "number" := fun e => by subst e; exact absurd h2 (by decide)
        simp only [kstB, if_neg e1, if_neg e2, if_neg e3, if_neg e4, if_neg e5, if_neg e6, h2, Bool.false_eq_true, if_false]
      · rw [last_snoc]; first | exact gap_ap (by assumption) (by assumption) | exact .inl (by decide) | exact gap_in (by assumption) (by assumption))
  case done =>
    rintro ⟨T, js, vs, t1, t2, a1, b1, ta, tb, n, nf, own⟩ u h tk ⟨hD, hlen, hN, ha', hb', hb2', hrest, hl', hlf'⟩ F' N'
    dsimp only at hD hlen hN ha' hb' hb2' hrest hl' hlf' F' N' ⊢
    k_steps
    (rename (_ < _ ∧ l < _ ∧ AllLt _ own) => l3); (rename News _ _ _ _ => lN')
    exact hret _ _ _ _ _ _ _ _ _ _ _ _ _ _ _ hD (by omega) hN ha' hb' hb2' (by k_asm) lN' hrest hl' hlf' hl2.2.1 l3.1

end
theorem laid21 : True := by
  k_with_none
  k_with "k_room" => ktr_room
  k_with "call builtin:len" => (k_here; (with_reducible show wpAny _ _ (call (Value.builtin "len") [Value.str _ _]) _ _ _); refine r_len (by assumption) ?_)
  k_with "subscriptTail" => (k_here; (with_reducible show wpAny _ _ (subscriptTail _ _ (Value.str _ _) (Value.int _ _)) _ _ _); refine r_item (by assumption) (by first | omega | exact Inv.nn (by assumption)) (by first | omega | (simp only [decide_eq_true_eq] at *; omega)) ?_)
  k_with "compareOp In str str" => (k_here; (with_reducible show wpAny _ _ (compareOp CmpOp.In (Value.str (one _) _) (Value.str _ _)) _ _ _); first | refine r_inB ?_ | refine r_inD ?_ | refine r_in ?_)
  k_with "subscriptTail" => (k_here; (with_reducible show wpAny _ _ (subscriptTail _ (Expr.Slice (some _) (some _) none _) (Value.str _ _) (Value.ref _)) _ _ _); (with_reducible rename Fr _ _ _ _ => F'); (with_reducible rename News _ _ _ _ => N'); (first | (refine r_pk (s := ⟨_, _, _, _, _⟩) F' N' (by assumption) (by omega) ?_) | (refine r_part (s := ⟨_, _, _, _, _⟩) F' N' (by assumption) (by omega) (by first | omega | exact Inv.le (by assumption)) ?_)); intro _ _ _ _ _)
  k_with "compareOp Eq str str" => (k_here; (with_reducible show wpAny _ _ (compareOp CmpOp.Eq (Value.str (pk _ _) _) (Value.str _ _)) _ _ _); first | refine r_eq (pk_comma _ _) ?_ | refine r_eq (pk_dot _ _) ?_ | refine r_eq (pk_none _ _) ?_)
  k_with "compareOp NotEq str str" => (k_here; (with_reducible show wpAny _ _ (compareOp CmpOp.NotEq (Value.str (pk _ _) _) (Value.str _ _)) _ _ _); first | refine r_ne (pk_comma _ _) ?_ | refine r_ne (pk_dot _ _) ?_ | refine r_ne (pk_none _ _) ?_)
  k_with "k_all" => assumption
  k_with "compareOp In str str" => (k_here; (with_reducible show wpAny _ _ (compareOp CmpOp.In (Value.str (pk _ _) _) (Value.str _ _)) _ _ _); refine r_inL (by assumption) ?_)
  k_with "ktr_room" => ((try simp only [depth_under_make, depth_under_kw, depth_in1, depth_deeper, depth_caller]); (try dsimp only [ktrTop]); first | exact roomG (by assumption) (by decide) | exact roomA (by assumption) (by decide) | exact roomZ (by assumption))
  k_with "ktr_units" => ((try simp only [units_in1, units_deeper, Around.mark_units, units_caller]); (try dsimp only [ktrTop]); first | exact roomG (by assumption) (by decide) | exact roomA (by assumption) (by decide) | exact roomZ (by assumption))
  k_with "k_ne" => (refine neN ?_; (try dsimp only); first | exact neLt (by assumption) | exact neGt (by assumption) | exact neGt (And.left (by assumption)) | exact neGt (And.left (And.right (by assumption))) | exact neGt (And.left (And.right (And.right (by assumption)))) | exact neGt (And.left (And.right (And.right (And.right (by assumption))))))
  k_with "call ref" => (k_here; (try dsimp only [List.append_nil, List.cons_append, List.nil_append]); (with_reducible show wpAny _ _ (call (Value.ref 213) [Value.ref _]) _ _ _); k_dflt (refine' sc_use (c_digits _ _ _ _ _ ?hzhT _ ?hzh0) ?hzB ?hzF ?hzX ?hzN ?hzT ?hzck ?hzhx ?hzlt ?hzU ?hzdp ?hzun ?_; (case hzB => k_asm); (case hzF => k_asm); (case hzX => k_asm); (case hzN => k_asm); (case hzT => k_asm); (case hzck => first | exact rfl | assumption); (case hzhx => k_mem); (case hzlt => assumption); (case hzU => intro i td'; k_upd); (case hzhT => first | assumption | (unfold Short; decide +kernel)); (case hzh0 => first | decide | omega); (case hzdp => ktr_room); (case hzun => ktr_units)); intro r' h' tk' td' i' hP' F' N'; obtain ⟨hr', hi', hl'⟩ := hP'; obtain ⟨t9, hr'⟩ := hr'; subst hr'; (try k_sweep))
  k_with "call ref" => (k_here; (try dsimp only [List.append_nil, List.cons_append, List.nil_append]); (with_reducible show wpAny _ _ (call (Value.ref 220) [Value.ref _]) _ _ _); k_dflt (refine' sc_use (c_expo _ _ _ _ _ ?hzhT _ ?hzh0) ?hzB ?hzF ?hzX ?hzN ?hzT ?hzck ?hzhx ?hzlt ?hzU ?hzdp ?hzun ?_; (case hzB => k_asm); (case hzF => k_asm); (case hzX => k_asm); (case hzN => k_asm); (case hzT => k_asm); (case hzck => first | exact rfl | assumption); (case hzhx => k_mem); (case hzlt => assumption); (case hzU => intro i td'; k_upd); (case hzhT => first | assumption | (unfold Short; decide +kernel)); (case hzh0 => first | decide | omega); (case hzdp => ktr_room); (case hzun => ktr_units)); intro r' h' tk' td' i' hP' F' N'; obtain ⟨hr', hi', hl'⟩ := hP'; subst hr'; (try k_sweep))
  k_with "call ref" => (k_here; (try dsimp only [List.append_nil, List.cons_append, List.nil_append]); (with_reducible show wpAny _ _ (call (Value.ref 185) [Value.ref _, Value.str _ _]) _ _ _); k_dflt (refine' fault_use _ _ _ _ ?hzB ?hzF ?hzX ?hzN ?hzT ?hzck ?hzhx ?hzhd ?hzlt ?hzne ?hzsub ?hzdp ?hzun ?_; (case hzB => k_asm); (case hzF => k_asm); (case hzX => k_asm); (case hzN => k_asm); (case hzT => k_asm); (case hzck => first | exact rfl | assumption); (case hzhx => k_mem); (case hzhd => k_mem); (case hzlt => assumption); (case hzne => assumption); (case hzsub => exact fun p hp => by (iterate 12 (try first | exact hp | refine List.Mem.tail _ ?_))); (case hzdp => ktr_room); (case hzun => ktr_units)); intro g9 e9 dd9 h' tk' Fg9 R9 U9; k_dflt (refine' leave_onX ?hzK Fg9 R9 U9 ?_; (case hzK => k_asm)); intro h' R' U')
  k_with "exec If" => ((with_reducible rename JoinOn 1 _ _ => hj); k_here; (with_reducible show wpAny _ _ (exec (Stmt.If (Expr.Compare _ [CmpOp.In] _ _) _ [] _) _) _ _ _); (with_reducible rename Fr _ _ _ _ => F'); (with_reducible rename News _ _ _ _ => N'); (first | refine join1 hj F' N' ?_ ?_ | refine join1 hj F' (news_tail N') ?_ ?_); (clear hj; intro Q' hq'); rotate_left; (clear hj F' N'; intro h' tk' td' i' hj' hi' hl' F' N'))
  k_with "exec If" => ((with_reducible rename JoinOn 2 _ _ => hj); k_here; (with_reducible rename Fr _ _ _ _ => F'); (with_reducible rename News _ _ _ _ => N'); refine join2 hj F' N' ?_ ?_; (clear hj; intro Q' hq'); rotate_left; (clear hj F' N'; intro h' tk' td' i' n' tn' hi' hl' hn' F' N'; subst hn'))
  k_with "call ref" => (k_here; (with_reducible show wpAny _ _ (call (Value.ref 185) [_, _]) _ _ _); contradiction)
  k_with "call ref" => (k_here; (try dsimp only [List.append_nil, List.cons_append, List.nil_append]); (with_reducible show wpAny _ _ (call (Value.ref 220) [_]) _ _ _); contradiction)
  k_with "exec Raise some none" => (k_here; refine exec_raise rfl ?_)
  k_with "call ref" => (k_here; (try dsimp only [List.append_nil, List.cons_append, List.nil_append]); (with_reducible show wpAny _ _ (call (Value.ref _) (Value.str _ _ :: _)) _ _ _); k_dflt (refine' call_exc ?hzF ?hzX ?hzN ?hzc ?hzi ?hzf ?hzz ?_; (case hzF => k_asm); (case hzX => k_asm); (case hzN => k_asm); (case hzc => kernel_rfl); (case hzi => k_is); (case hzf => k_is); (case hzz => exact Nat.le_of_ble_eq_true rfl); intro x' d' h' F' N' l1 l2; (try ((rename (∀ p ∈ _, Prod.fst p ≠ _) => hne9); have l8 := ne_more hne9 (fun p hp => Nat.lt_trans (l1 p (by (iterate 8 (try first | exact hp | refine List.Mem.tail _ ?_)))) l2))); (try k_lt l1); (try k_lt2 l2); (try k_sweep); k_enter))
  k_with "setAttr ref" => (k_here; k_dflt (first | (refine' setE_first ?hzF ?hzX ?hzN ?hzs ?hzo ?hzt ?hzd ?hzm ?hzU ?_; (case hzF => k_asm); (case hzX => k_asm); (case hzN => k_asm); (case hzm => k_mem); (case hzs => k_is); (case hzo => kernel_rfl); (case hzt => k_is); (case hzd => k_is); (case hzU => intro d9; k_upd); intro d' h' F' N' l1; (try k_lt l1); (try k_sweep)) | (refine' setE_next ?hzF ?hzX ?hzN ?hzs ?hzo ?hzt ?hzd ?hzm ?hzm2 ?hzl ?hze ?hzU ?hzz ?_; (case hzF => k_asm); (case hzX => k_asm); (case hzN => k_asm); (case hzm => k_mem); (case hzm2 => k_mem); (case hzs => k_is); (case hzo => kernel_rfl); (case hzt => k_is); (case hzd => k_is); (case hzl => k_get); (case hze => k_put); (case hzU => k_upd); (case hzz => exact Nat.le_of_ble_eq_true rfl); intro h' F' N'; (try k_sweep))))
  trivial
section
theorem wordsnumE20 : True := by
  k_with "k_room" => ((simp only [depth_under_make, depth_under_kw, depth_in1, depth_deeper, depth_mark]); ktr_room)
  k_with "call ref" => (k_here; (try dsimp only [List.append_nil, List.cons_append, List.nil_append]); (with_reducible show wpAny _ _ (call (Value.ref 150) [Value.str _ _]) _ _ _); refine parked ?_)
  k_with "getAttr ref" => (k_here; k_dflt (refine' get_exc ?hzk1 ?hzk2 ?hzk3 ?hzm1 ?hzm2 ?hzc ?hzk ?hzd ?hzkc ?hzk4 ?hzkx ?hzk5 ?hzk6 ?hzk7 ?hzk8 ?hzk9 ?_; (case hzk1 => k_asm); (case hzk2 => k_asm); (case hzk3 => k_asm); (case hzm1 => k_mem); (case hzc => assumption); (case hzk => assumption); (case hzd => assumption); (case hzm2 => k_mem); (case hzkc => kernel_rfl); (case hzk4 => k_is); (case hzkx => k_is); (case hzk5 => k_is); (case hzk6 => k_is); (case hzk7 => k_is); (case hzk8 => k_get); (case hzk9 => k_handed); k_whole))
  k_with "exec Raise some none" => (k_here; refine exec_raiseH rfl ?_)
  trivial
theorem rdE_at {M : Model} {A : Around} {Q E : Value → Shared → Prop} {s : Shared} {T : Str} {k j : Int} {t : Tok} (e : j = numEnd T k) (hw : part T k (numEnd T k) = Str.ofString "1e301") (h : wpAny M A (call (.ref 150) [.str (Str.ofString "1e301") t]) Q E s) :
    id (wpAny M A (call (.ref 150) [.str (part T k j) t]) Q E s) := by
  subst e
  rw [hw]
  exact h
set_option maxHeartbeats 8000000 in
theorem c_numE2 (w : World) (mean : ExcName → Option Value) (mg mb : Str → Option Value) (T : Str) (hT : Short T) (k : Int) (hk : 0 ≤ k) (hm : many T k ≠ 0) (hw : part T k (numEnd T k) = Str.ofString "1e301")
    (x d : Addr) (hxd : @LT.lt Nat _ d x) (rest : List (Addr × Obj)) (ta tb tc td : Tok) (hne : ∀ p ∈ rest, p.1 ≠ d) :
    ∀ (dp un : Nat) (gd : Option (List Code)) (cn : Str) (cs : Scope) (a : Addr) (ccd : Value) (cl : List (Str × Addr)) (outer : List Env) (A₀ : Around) (base h₀ : Heap) (L : Addr) (m : Str → Option Value) (s : Shared) (Q E : Value → Shared → Prop), Below A₀ base outer h₀ → (hd.heap_39 w.params).In base → Top hd.view_39 (looseW hd.view_39 [Str.ofString "MOST_VALUE", Str.ofString "fraction"]) mean mg mb base → Fr h₀ L s.heap m → (hd.heap_39 w.params).In h₀ → News h₀ L s.heap ((d, dictOf [⟨PyData.keyHash w.params (Str.ofString "text"), .str (Str.ofString "text") ta, .str T tb⟩, ⟨PyData.keyHash w.params (Str.ofString "at"), .str (Str.ofString "at") tc, .int k td⟩] 2) :: (x, instObj 244 d) :: rest) → Top hd.view_39 (looseW hd.view_39 [Str.ofString "MOST_VALUE", Str.ofString "fraction"]) mean mg mb h₀ → cs.kind = .function → dp + 18 < recursionLimit → un + 180 < cLine →
    (∀ g e h' tk', Fr h₀ L g m → RaisedSN base g (envX cn cs L a ccd cl :: outer) e (.ref 70) rest h' → g.UpToSlots h' → E (.ref e) { s with heap := h', toks := tk' }) →
    wpAny (model PySem.Challenge.rw_xm0729_01.row.prog w) (ktrTop dp un gd cn cs L a ccd cl outer) (call (.ref 227) [.ref x]) Q E s := by
  k_fill
  intro dp un gd cn cs a ccd cl outer A₀ base h₀ L m s Q E B XB TB F X N TT hck hdp hun hret
  have hj : JoinOn 1 T k := trivial
  refine wpAny_call ?_
  k_dflt cell_enter
  k_steps
  all_goals first
    | (rename (∀ h' tk' td' i, i = numA _ _ → _) => hq'
       refine hq' _ _ _ _ ?_ ?_ (by k_asm) (by first | k_asm | (refine cb_drop (by assumption) ?_; kcj_all))
       · (simp only [any_s] at *); unfold numA; simp_all; done
       · omega)
    | (rename (∀ h' tk' td' i n' tn', i = numC _ _ → _) => hq'
       refine hq' _ _ _ _ _ _ ?_ ?_ ?_ (by first | k_asm | exact fr_twice (by assumption)) (by first | k_asm | (refine cb_drop (by assumption) ?_; kcj_all))
       · unfold numC numB; simp_all; done
       · omega
       · unfold many numC numB; simp_all; done)
    | skip
  all_goals (
    refine rdE_at (T := T) (k := k) (by unfold numEnd; simp_all; done) hw ?_
    k_dflt (refine' c_rdE _ _ _ _ _ _ _ _ _ _ _ _ _ _ _ _ _ _ _ _ _ _ _ ?B ?F ?X ?N ?T ?ck ?dp ?un ?_; (case B => k_asm); (case F => k_asm); (case X => k_asm); (case N => k_asm); (case T => k_asm); (case ck => exact rfl); (case dp => ktr_room); (case un => ktr_units))
    intro g9 e9 dd9 tk9 mg9 tm9 h9 tk8 Fg9 R9 U9
    refine' caught_XA R9 Fg9 (by k_asm) U9 XB TB (by k_is) (by kernel_rfl) ?_
    clear R9 U9
    intro h9 g' tk9 oe vs9 hcls hkey hdata T' F' N' B' X' TT'
    k_steps
    (rename Fr g' _ _ _ => lF'); (rename News g' _ _ _ => lN')
    refine' thrownH_ lF' (by k_asm) lN' (by k_mem) (by kernel_rfl) (Nat.ne_of_lt (by omega)) hdata hkey (by k_upd) ?_
    intro h8 F8 N8
    refine' as_raised (C := 70) (news := rest) (oe := { cls := .ref 70, dict := _, data := .fields #[.ref _, .none, .ref e9, .none, .bool false, .none] }) (by assumption) F8 (news_pick N8 (by k_mem) (fun p hp => by (iterate 12 (try first | exact hp | refine List.Mem.tail _ ?_)))) (by assumption) rfl rfl rfl rfl ?_ rfl rfl
    intro h7 tk7 R7 U7
    refine' leave_held T' F8 R7 U7 ?_
    intro h' R' U'
    exact hret _ _ _ _ (by assumption) R' U')

end
theorem laid22 : True := by
  k_with_none
  k_with "k_room" => ktr_room
  k_with "call builtin:len" => (k_here; (with_reducible show wpAny _ _ (call (Value.builtin "len") [Value.str _ _]) _ _ _); refine r_len (by assumption) ?_)
  k_with "subscriptTail" => (k_here; (with_reducible show wpAny _ _ (subscriptTail _ _ (Value.str _ _) (Value.int _ _)) _ _ _); refine r_item (by assumption) (by first | omega | exact Inv.nn (by assumption)) (by first | omega | (simp only [decide_eq_true_eq] at *; omega)) ?_)
  k_with "compareOp In str str" => (k_here; (with_reducible show wpAny _ _ (compareOp CmpOp.In (Value.str (one _) _) (Value.str _ _)) _ _ _); first | refine r_inB ?_ | refine r_inD ?_ | refine r_in ?_)
  k_with "subscriptTail" => (k_here; (with_reducible show wpAny _ _ (subscriptTail _ (Expr.Slice (some _) (some _) none _) (Value.str _ _) (Value.ref _)) _ _ _); (with_reducible rename Fr _ _ _ _ => F'); (with_reducible rename News _ _ _ _ => N'); (first | (refine r_pk (s := ⟨_, _, _, _, _⟩) F' N' (by assumption) (by omega) ?_) | (refine r_part (s := ⟨_, _, _, _, _⟩) F' N' (by assumption) (by omega) (by first | omega | exact Inv.le (by assumption)) ?_)); intro _ _ _ _ _)
  k_with "compareOp Eq str str" => (k_here; (with_reducible show wpAny _ _ (compareOp CmpOp.Eq (Value.str (pk _ _) _) (Value.str _ _)) _ _ _); first | refine r_eq (pk_comma _ _) ?_ | refine r_eq (pk_dot _ _) ?_ | refine r_eq (pk_none _ _) ?_)
  k_with "compareOp NotEq str str" => (k_here; (with_reducible show wpAny _ _ (compareOp CmpOp.NotEq (Value.str (pk _ _) _) (Value.str _ _)) _ _ _); first | refine r_ne (pk_comma _ _) ?_ | refine r_ne (pk_dot _ _) ?_ | refine r_ne (pk_none _ _) ?_)
  k_with "k_all" => assumption
  k_with "compareOp In str str" => (k_here; (with_reducible show wpAny _ _ (compareOp CmpOp.In (Value.str (pk _ _) _) (Value.str _ _)) _ _ _); refine r_inL (by assumption) ?_)
  k_with "ktr_room" => ((try simp only [depth_under_make, depth_under_kw, depth_in1, depth_deeper, depth_caller]); (try dsimp only [ktrTop]); first | exact roomG (by assumption) (by decide) | exact roomA (by assumption) (by decide) | exact roomZ (by assumption))
  k_with "ktr_units" => ((try simp only [units_in1, units_deeper, Around.mark_units, units_caller]); (try dsimp only [ktrTop]); first | exact roomG (by assumption) (by decide) | exact roomA (by assumption) (by decide) | exact roomZ (by assumption))
  k_with "k_ne" => (refine neN ?_; (try dsimp only); first | exact neLt (by assumption) | exact neGt (by assumption) | exact neGt (And.left (by assumption)) | exact neGt (And.left (And.right (by assumption))) | exact neGt (And.left (And.right (And.right (by assumption)))) | exact neGt (And.left (And.right (And.right (And.right (by assumption))))))
  trivial
section
/-- the words and what they say, the two of the law's first line too -/
def wlL (i : Nat) : List Nat := [[48], [49, 50], [45, 50, 46, 53], [46, 53], [43, 51], [49, 101, 50], [52, 46], [45, 46, 50, 53], [53, 69, 45, 49], [49], [50]].getD i []
theorem wlL_eq : ∀ i : Fin 11, (wdS i.val).cps.toList = wlL i.val := by decide +kernel
def isL (l : List Nat) (c : Nat) : Bool := decide (l.head? = some c)
def sgnL (l : List Nat) : Bool := isL l 43 || isL l 45
def expoL (l : List Nat) : Bool := isL l 101 || isL l 69
def looksL : List Nat → Bool
  | [] => false
  | c :: _ => decide (c ∈ [43, 45, 46, 48, 49, 50, 51, 52, 53, 54, 55, 56, 57])
def aL (l : List Nat) : Nat := if sgnL l = true then 1 else 0
def bL (l : List Nat) : Nat := aL l + span isD (l.drop (aL l))
def cL (l : List Nat) : Nat := if isL (l.drop (bL l)) 46 = true then bL l + 1 + span isD (l.drop (bL l + 1)) else bL l
def manyL (l : List Nat) : Nat := if isL (l.drop (bL l)) 46 = true then bL l - aL l + (cL l - (bL l + 1)) else bL l - aL l
def xL (l : List Nat) : Nat :=
  if expoL l = true then
    (if sgnL (l.drop 1) = true then (if span isD (l.drop 2) = 0 then 0 else 2 + span isD (l.drop 2)) else (if span isD (l.drop 1) = 0 then 0 else 1 + span isD (l.drop 1)))
  else 0
def numL (l : List Nat) : Nat := cL l + xL (l.drop (cL l))
def sepL (l : List Nat) : Nat := if isL (l.drop (span isB l)) 44 = true then span isB l + 1 + span isB (l.drop (span isB l + 1)) else span isB l
theorem tl_add {T : Str} {k : Int} (n : Nat) (hk : 0 ≤ k) : tl T (k + n) = (tl T k).drop n := by
  unfold tl
  rw [List.drop_drop]
  congr 1
  omega
theorem looks_tl (T : Str) (k : Int) : looksAt T k = looksL (tl T k) := by
  unfold looksAt looksL
  cases tl T k <;> rfl
theorem numA_tl (T : Str) (k : Int) : numA T k = k + (aL (tl T k) : Nat) := by
  show (if sgnL (tl T k) = true then k + 1 else k) = _
  unfold aL
  split <;> simp
theorem numB_tl {T : Str} {k : Int} (hk : 0 ≤ k) : numB T k = k + (bL (tl T k) : Nat) := by
  unfold numB stop
  rw [numA_tl, tl_add _ hk]
  unfold bL
  omega
theorem numC_tl {T : Str} {k : Int} (hk : 0 ≤ k) : numC T k = k + (cL (tl T k) : Nat) := by
  unfold numC
  rw [show isAt T (numB T k) 46 = isL ((tl T k).drop (bL (tl T k))) 46 from by rw [numB_tl hk]; show isL (tl T _) 46 = _; rw [tl_add _ hk], numB_tl hk]
  unfold cL
  split
  · unfold stop
    rw [show k + ((bL (tl T k) : Nat) : Int) + 1 = k + ((bL (tl T k) + 1 : Nat) : Int) by omega, tl_add _ hk]
    omega
  · rfl
theorem aL_le (l : List Nat) : aL l ≤ bL l := by unfold bL; omega
theorem bL_le {l : List Nat} (h : isL (l.drop (bL l)) 46 = true) : bL l + 1 ≤ cL l := by unfold cL; rw [if_pos h]; omega
theorem many_tl {T : Str} {k : Int} (hk : 0 ≤ k) : many T k = (manyL (tl T k) : Nat) := by
  have h1 := aL_le (tl T k)
  unfold many
  rw [show isAt T (numB T k) 46 = isL ((tl T k).drop (bL (tl T k))) 46 from by rw [numB_tl hk]; show isL (tl T _) 46 = _; rw [tl_add _ hk], numB_tl hk, numA_tl, numC_tl hk]
  unfold manyL
  split
  · rename_i h
    have h2 := bL_le h
    omega
  · omega
theorem expEnd_tl {T : Str} {k : Int} (hk : 0 ≤ k) : expEnd T k = k + (xL (tl T k) : Nat) := by
  have e1 : tl T (k + 1) = (tl T k).drop 1 := tl_add 1 hk
  have e2 : tl T (k + 1 + 1) = (tl T k).drop 2 := by rw [show k + 1 + 1 = k + ((2 : Nat) : Int) by omega]; exact tl_add 2 hk
  unfold expEnd
  show (if expoL (tl T k) = true then (if sgnL (tl T (k + 1)) = true then (if stop isD T (k + 1 + 1) - (k + 1 + 1) = 0 then k else stop isD T (k + 1 + 1)) else (if stop isD T (k + 1) - (k + 1) = 0 then k else stop isD T (k + 1))) else k) = _
  unfold stop xL
  rw [e1, e2]
  repeat' split
  all_goals omega
theorem numEnd_tl {T : Str} {k : Int} (hk : 0 ≤ k) : numEnd T k = k + (numL (tl T k) : Nat) := by
  unfold numEnd
  have h := numC_tl (T := T) hk
  rw [expEnd_tl (by omega), h, tl_add _ hk]
  unfold numL
  omega
theorem sepEnd_tl {T : Str} {k : Int} (hk : 0 ≤ k) : sepEnd T k = k + (sepL (tl T k) : Nat) := by
  unfold sepEnd
  have e : stop isB T k = k + (span isB (tl T k) : Nat) := rfl
  rw [show isAt T (stop isB T k) 44 = isL ((tl T k).drop (span isB (tl T k))) 44 from by rw [e]; show isL (tl T _) 44 = _; rw [tl_add _ hk], e]
  unfold sepL
  split
  · unfold stop
    rw [show k + ((span isB (tl T k) : Nat) : Int) + 1 = k + ((span isB (tl T k) + 1 : Nat) : Int) by omega, tl_add _ hk]
    omega
  · rfl
theorem part_tl {T : Str} {k : Int} (hk : 0 ≤ k) : part T k (numEnd T k) = ⟨((tl T k).take (numL (tl T k))).toArray⟩ := by
  rw [numEnd_tl hk]
  unfold part
  rw [show (k + ((numL (tl T k) : Nat) : Int) - k).toNat = numL (tl T k) by omega]
/-- what the scanner makes of the rest of a text: the words it reads till it stops or faults -/
inductive ScanL : List Nat → List Nat → Prop
  | stop {l : List Nat} : looksL l = false → ScanL l []
  | bad1 {l : List Nat} : looksL l = true → manyL l = 0 → ScanL l []
  | bad2 {l : List Nat} : looksL l = true → manyL l ≠ 0 → l.take (numL l) = [49, 101, 51, 48, 49] → ScanL l []
  | num {l : List Nat} {i : Nat} {js : List Nat} : looksL l = true → manyL l ≠ 0 → l.take (numL l) = wlL i → i < 11 → ScanL (l.drop (numL l + sepL (l.drop (numL l)))) js → ScanL l (i :: js)
/-- the signs that may follow word i -/
def dotOk (i : Nat) : Bool := decide (i ∈ [2, 3, 5, 6, 7, 8])
def Stops (i : Nat) (r : List Nat) : Prop := r = [] ∨ ∃ c t, r = c :: t ∧ (c ∈ [32, 44, 9, 10, 12, 59, 43, 45] ∨ (c = 46 ∧ dotOk i = true))
theorem num_word9 {i : Nat} (hi : i < 9) {r : List Nat} (h : Stops i r) : looksL (wlL i ++ r) = true ∧ manyL (wlL i ++ r) = [1, 2, 2, 1, 1, 1, 1, 2, 1].getD i 0 ∧ numL (wlL i ++ r) = (wlL i).length := by
  have hc : i = 0 ∨ i = 1 ∨ i = 2 ∨ i = 3 ∨ i = 4 ∨ i = 5 ∨ i = 6 ∨ i = 7 ∨ i = 8 := by omega
  rcases h with rfl | ⟨c, t, rfl, h⟩
  · rcases hc with rfl | rfl | rfl | rfl | rfl | rfl | rfl | rfl | rfl <;> exact ⟨by kernel_rfl, by kernel_rfl, by kernel_rfl⟩
  · simp only [List.mem_cons, List.not_mem_nil, or_false] at h
    rcases hc with rfl | rfl | rfl | rfl | rfl | rfl | rfl | rfl | rfl <;> rcases h with (rfl | rfl | rfl | rfl | rfl | rfl | rfl | rfl) | ⟨rfl, h⟩ <;> first | exact absurd h (by decide) | exact ⟨by kernel_rfl, by kernel_rfl, by kernel_rfl⟩
theorem num_word {i : Nat} (hi : i < 9) {r : List Nat} (h : Stops i r) : looksL (wlL i ++ r) = true ∧ manyL (wlL i ++ r) ≠ 0 ∧ numL (wlL i ++ r) = (wlL i).length := by
  obtain ⟨h1, h2, h3⟩ := num_word9 hi h
  refine ⟨h1, ?_, h3⟩
  rw [h2]
  have hc : i = 0 ∨ i = 1 ∨ i = 2 ∨ i = 3 ∨ i = 4 ∨ i = 5 ∨ i = 6 ∨ i = 7 ∨ i = 8 := by omega
  rcases hc with rfl | rfl | rfl | rfl | rfl | rfl | rfl | rfl | rfl <;> decide

end
section
/-- what stands behind word i, and the words in it -/
def After (i : Nat) (r : List Nat) (js : List Nat) : Prop := Stops i r ∧ ScanL (r.drop (sepL r)) js
def ScanStart (l : List Nat) (js : List Nat) : Prop := ScanL (l.drop (span isB l)) js
theorem wlL_of {i : Nat} (h : i < 11) : (wdS i).cps.toList = wlL i := wlL_eq ⟨i, h⟩
theorem word_scan {i : Nat} {r js : List Nat} (hi : i < 9) (h : After i r js) : ScanL (wlL i ++ r) (i :: js) := by
  obtain ⟨h1, h2⟩ := h
  obtain ⟨a, b, c⟩ := num_word hi h1
  refine .num a b ?_ (by omega) ?_
  · rw [c, List.take_left]
  · rw [c, List.drop_left, ← List.drop_drop, List.drop_left]
    exact h2
theorem word_front {i : Nat} (hi : i < 9) (r : List Nat) : span isB (wlL i ++ r) = 0 ∧ sepL (wlL i ++ r) = 0 := by
  have hc : i = 0 ∨ i = 1 ∨ i = 2 ∨ i = 3 ∨ i = 4 ∨ i = 5 ∨ i = 6 ∨ i = 7 ∨ i = 8 := by omega
  rcases hc with rfl | rfl | rfl | rfl | rfl | rfl | rfl | rfl | rfl <;> exact ⟨by kernel_rfl, by kernel_rfl⟩
theorem apart_tab : ∀ j i : Fin 9, apartB (wdS j.val) (wdS i.val) = true → (i.val = 2 ∨ i.val = 4 ∨ i.val = 7 ∨ (i.val = 3 ∧ dotOk j.val = true)) := by decide +kernel
theorem gap_after {g : Str} {i j : Nat} {r : List Nat} (hi : i < 9) (hj : j < 9) (h : GapOk (some j) g i) : Stops j (g.cps.toList ++ (wlL i ++ r)) ∧ sepL (g.cps.toList ++ (wlL i ++ r)) = g.cps.toList.length := by
  have hc : i = 0 ∨ i = 1 ∨ i = 2 ∨ i = 3 ∨ i = 4 ∨ i = 5 ∨ i = 6 ∨ i = 7 ∨ i = 8 := by omega
  rcases h with h | ⟨rfl, h⟩
  · simp only [List.mem_cons, List.not_mem_nil, or_false] at h
    rcases h with rfl | rfl | rfl | rfl | rfl
    · rw [show (Str.ofString " ").cps.toList = [32] from by decide +kernel]
      refine ⟨.inr ⟨32, _, rfl, .inl (by decide)⟩, ?_⟩
      rcases hc with rfl | rfl | rfl | rfl | rfl | rfl | rfl | rfl | rfl <;> kernel_rfl
    · rw [show (Str.ofString ",").cps.toList = [44] from by decide +kernel]
      refine ⟨.inr ⟨44, _, rfl, .inl (by decide)⟩, ?_⟩
      rcases hc with rfl | rfl | rfl | rfl | rfl | rfl | rfl | rfl | rfl <;> kernel_rfl
    · rw [show (Str.ofString "\t, \n").cps.toList = [9, 44, 32, 10] from by decide +kernel]
      refine ⟨.inr ⟨9, _, rfl, .inl (by decide)⟩, ?_⟩
      rcases hc with rfl | rfl | rfl | rfl | rfl | rfl | rfl | rfl | rfl <;> kernel_rfl
    · rw [show (Str.ofString "\x0c").cps.toList = [12] from by decide +kernel]
      refine ⟨.inr ⟨12, _, rfl, .inl (by decide)⟩, ?_⟩
      rcases hc with rfl | rfl | rfl | rfl | rfl | rfl | rfl | rfl | rfl <;> kernel_rfl
    · rw [show (Str.ofString " , ").cps.toList = [32, 44, 32] from by decide +kernel]
      refine ⟨.inr ⟨32, _, rfl, .inl (by decide)⟩, ?_⟩
      rcases hc with rfl | rfl | rfl | rfl | rfl | rfl | rfl | rfl | rfl <;> kernel_rfl
  · rw [show (Str.ofString "").cps.toList = [] from by decide +kernel, List.nil_append]
    refine ⟨?_, (word_front hi r).2⟩
    rcases apart_tab ⟨j, hj⟩ ⟨i, hi⟩ h with h | h | h | ⟨h, h2⟩ <;> (have h' : i = _ := h) <;> subst h'
    · exact .inr ⟨45, _, rfl, .inl (by decide)⟩
    · exact .inr ⟨43, _, rfl, .inl (by decide)⟩
    · exact .inr ⟨45, _, rfl, .inl (by decide)⟩
    · exact .inr ⟨46, _, rfl, .inr ⟨rfl, h2⟩⟩
/-- a drawn text and what may stand behind it -/
theorem drawn_scan {T : Str} {js : List Nat} (h : Drawn T js) : ∀ (r rs : List Nat), (match js.getLast? with | none => ScanStart r rs | some j => After j r rs) → ScanStart (T.cps.toList ++ r) (js ++ rs) := by
  induction h with
  | @start p hp =>
    intro r rs h
    have h' : ScanStart r rs := h
    simp only [List.mem_cons, List.not_mem_nil, or_false] at hp
    rcases hp with rfl | rfl | rfl
    · rw [show (Str.ofString "").cps.toList = [] from by decide +kernel]; exact h'
    · rw [show (Str.ofString " ").cps.toList = [32] from by decide +kernel]
      show ScanL (([32] ++ r).drop (span isB ([32] ++ r))) rs
      rw [show span isB ([32] ++ r) = span isB r + 1 from by unfold span; rfl]
      exact h'
    · rw [show (Str.ofString "\n\t").cps.toList = [10, 9] from by decide +kernel]
      show ScanL (([10, 9] ++ r).drop (span isB ([10, 9] ++ r))) rs
      rw [show span isB ([10, 9] ++ r) = span isB r + 1 + 1 from by unfold span; rfl]
      exact h'
  | @add T g js i hd hi hg ih =>
    intro r rs h
    rw [last_snoc] at h
    have h' : After i r rs := h
    have hw := word_scan hi h'
    have e : (T ++ g ++ wdS i).cps.toList ++ r = T.cps.toList ++ (g.cps.toList ++ (wlL i ++ r)) := by
      rw [← wlL_of (show i < 11 by omega)]
      show ((T.cps ++ g.cps) ++ (wdS i).cps).toList ++ r = _
      simp
    rw [e, List.append_assoc]
    refine ih _ _ ?_
    cases z : js.getLast? with
    | none =>
      rw [z] at hg
      have hg' : g = Str.ofString "" := hg
      subst hg'
      rw [show (Str.ofString "").cps.toList = [] from by decide +kernel, List.nil_append]
      show ScanL ((wlL i ++ r).drop (span isB (wlL i ++ r))) ([i] ++ rs)
      rw [(word_front hi r).1]
      exact hw
    | some j =>
      rw [z] at hg
      have hj : j < 9 := hd.all j (List.mem_of_getLast? z)
      obtain ⟨a, b⟩ := gap_after (r := r) hi hj hg
      refine ⟨a, ?_⟩
      rw [b, List.drop_left]
      exact hw
/-- the ten endings -/
def endsL : List (List Nat) := [[], [32, 10], [32, 44], [32, 120, 32, 53, 32, 53], [44, 44, 54, 32, 54], [32, 45, 32, 55], [32, 46, 32, 55, 32, 55], [32, 49, 101, 51, 48, 49, 32, 56, 32, 56], [32, 101, 53, 32, 53], [59, 49, 32, 49]]
def endsS : List Str := [Str.ofString "", Str.ofString " \n", Str.ofString " ,", Str.ofString " x 5 5", Str.ofString ",,6 6", Str.ofString " - 7", Str.ofString " . 7 7", Str.ofString " 1e301 8 8", Str.ofString " e5 5", Str.ofString ";1 1"]
theorem ends_eq : endsS.map (fun g => g.cps.toList) = endsL := by decide +kernel
theorem end_stop {e : List Nat} (h : e ∈ endsL) : (∀ j, Stops j e) ∧ ScanL (e.drop (sepL e)) [] ∧ ScanStart e [] := by
  unfold endsL at h
  simp only [List.mem_cons, List.not_mem_nil, or_false] at h
  rcases h with rfl | rfl | rfl | rfl | rfl | rfl | rfl | rfl | rfl | rfl
  · exact ⟨fun j => .inl rfl, .stop (by decide), .stop (by decide)⟩
  · exact ⟨fun j => .inr ⟨_, _, rfl, .inl (by decide)⟩, .stop (by decide), .stop (by decide)⟩
  · exact ⟨fun j => .inr ⟨_, _, rfl, .inl (by decide)⟩, .stop (by decide), .stop (by decide)⟩
  · exact ⟨fun j => .inr ⟨_, _, rfl, .inl (by decide)⟩, .stop (by decide), .stop (by decide)⟩
  · exact ⟨fun j => .inr ⟨_, _, rfl, .inl (by decide)⟩, .stop (by decide), .stop (by decide)⟩
  · exact ⟨fun j => .inr ⟨_, _, rfl, .inl (by decide)⟩, .bad1 (by decide) (by decide), .bad1 (by decide) (by decide)⟩
  · exact ⟨fun j => .inr ⟨_, _, rfl, .inl (by decide)⟩, .bad1 (by decide) (by decide), .bad1 (by decide) (by decide)⟩
  · exact ⟨fun j => .inr ⟨_, _, rfl, .inl (by decide)⟩, .bad2 (by decide) (by decide) (by decide), .bad2 (by decide) (by decide) (by decide)⟩
  · exact ⟨fun j => .inr ⟨_, _, rfl, .inl (by decide)⟩, .stop (by decide), .stop (by decide)⟩
  · exact ⟨fun j => .inr ⟨_, _, rfl, .inl (by decide)⟩, .stop (by decide), .stop (by decide)⟩
theorem drawn_end_scan {T : Str} {js : List Nat} (h : Drawn T js) {e : List Nat} (he : e ∈ endsL) : ScanStart (T.cps.toList ++ e) js := by
  obtain ⟨h1, h2, h3⟩ := end_stop he
  have := drawn_scan h e []
  rw [List.append_nil] at this
  refine this ?_
  cases js.getLast? with
  | none => exact h3
  | some j => exact ⟨h1 j, h2⟩
theorem drawn_self {T : Str} {js : List Nat} (h : Drawn T js) : ScanStart T.cps.toList js := by
  have := drawn_end_scan h (e := []) (.head _)
  rw [List.append_nil] at this
  exact this
theorem drawn_more {T g : Str} {js : List Nat} (h : Drawn T js) (hg : g ∈ endsS) : ScanStart (T ++ g).cps.toList js := by
  have he : g.cps.toList ∈ endsL := ends_eq ▸ List.mem_map_of_mem hg
  have := drawn_end_scan h he
  rw [show (T ++ g).cps.toList = T.cps.toList ++ g.cps.toList from by show (T.cps ++ g.cps).toList = _; simp]
  exact this
theorem first_line : ScanStart (Str.ofString " 1 2").cps.toList [9, 10] := by
  rw [show (Str.ofString " 1 2").cps.toList = [32, 49, 32, 50] from by decide +kernel]
  exact .num (by decide) (by decide) (by decide) (by decide) (.num (by decide) (by decide) (by decide) (by decide) (.stop (by decide)))

end
section
open PyProof.Rows.LCg in
section
variable {prog : Program} {w : World} {A : Around} {E : Value → Shared → Prop} {s : Shared} {h₀ : Heap} {L : Addr} {m : Str → Option Value} {env : Env}
/-- a comprehension's turns, one by one, by what holds ahead of turn i -/
theorem comp_ind {elt : Expr} {x : Str} {scope : Scope} {cl : List (Str × Addr)} {S : List (Addr × Obj) → Prop} {P : Nat → Value → Prop} {Fin : List Value → List (Addr × Obj) → Prop} {n : Nat} (T : Nat → List Value → List (Addr × Obj) → Prop)
    (turn : ∀ i ys news v I oI C oC D m₂ h tk (E' : Value → Shared → Prop), i < n → T i ys news → P i v → NsObj oC m₂ → m₂ x = some v → Fr h₀ L h m → News h₀ L h ((I, oI) :: (C, oC) :: (D, lst ys) :: news) → Off3 I C D news → ((@Ne Nat I C) ∧ (@Ne Nat I D) ∧ (@Ne Nat C D)) →
      wpAny (model prog w) A (eval elt (compEnvC scope cl C env)) (CompEnd h₀ L m { s with heap := h, toks := tk } I oI C oC D (lst ys) S (fun y news' => T (i + 1) (ys ++ [y]) news')) E' { s with heap := h, toks := tk })
    (done : ∀ ys news, T n ys news → Fin ys news) : ∀ (k i : Nat) (ys : List Value) (news : List (Addr × Obj)), i + k = n → T i ys news → CompRest prog w A h₀ L m env elt x scope cl s S P Fin k i ys news := by
  intro k
  induction k with
  | zero =>
    intro i ys news e t
    obtain rfl : i = n := by omega
    exact done _ _ t
  | succ k ih =>
    intro i ys news e t v I oI C oC D m₂ h tk E' hP hC hx F N off ne
    refine wpAny_mono (turn i ys news v I oI C oC D m₂ h tk E' (by omega) t hP hC hx F N off ne) (fun y s₂ z => ?_) fun _ _ z => z
    obtain ⟨h', tk', n', e', F', N', off', hS, r⟩ := z
    exact ⟨h', tk', n', e', F', N', off', hS, ih _ _ _ (by omega) r⟩
/-- the source of a comprehension: a range of any step -/
def SrcS (prog : Program) (w : World) (A : Around) (h₀ : Heap) (L : Addr) (m : Str → Option Value) (env : Env) (elt : Expr) (x : Str) (scope : Scope) (cl : List (Str × Addr)) (Fin : Shared → List Value → List (Addr × Obj) → Prop) (xv : Value) (s₁ : Shared) : Prop :=
  ∃ r a b c t u v n news, xv = .ref r ∧ Fr h₀ L s₁.heap m ∧ News h₀ L s₁.heap news ∧ IsRange s₁.heap r a b c t u v ∧ Builtin.Range.small a b c = true ∧ Builtin.Range.rangeSize a b c = ((n : Nat) : Int) ∧ n ≤ sizeLine ∧
    ∀ g, CompRest prog w A h₀ L m env elt x scope cl { s₁ with heap := g } (fun _ => True) (fun i v => ∃ t, v = .int (a + (i : Int) * c) t) (Fin { s₁ with heap := g }) n 0 [] news
theorem listComp_S {elt iter : Expr} {x : Str} {px : Pos} {scope : Scope} {cl : List (Str × Addr)} {pos : Pos} {Q : Value → Shared → Prop} (hh : A.handled = none)
    (hclos : closureFor scope env = pure cl) (hcell : ∀ y ∈ scope.names, y.2 ≠ .cell) (hkind : scope.kind = .function)
    (hnames : ∀ y ∈ scope.names, y.2 = .local → scope.names.lookup y.1 = some .local) (hx : scope.names.lookup x = some .local) (hs : ∀ x, foldedSetIterable iter env x = pure x)
    (h : wpAny (model prog w) A (eval iter env) (SrcS prog w A h₀ L m env elt x scope cl (fun s₂ => FinE h₀ L m s₂ Q)) E s) :
    wpAny (model prog w) A (eval (.ListComp elt [⟨.Name x px, iter, [], 0⟩] scope pos) env) Q E s := by
  rw [eval_ListComp]
  refine wpAny_comprehension_free (use := none) rfl hs hclos hkind hnames (wpAny_mono h (fun xv s₁ z => ?_) fun _ _ e => e)
  obtain ⟨r, a, b, c, t, u, v, n, news, rfl, F, N, hr, hsm, hn, hsz, R⟩ := z
  refine wpAny_pyIter_range hr hsm ?_
  refine block_U (Walks.range hh _ a c n) hsz (fun i h st => ⟨_, st⟩) (fun i h h' o nw st e e' _ _ _ => ?_) hcell hkind hx (by show IsRangeIter _ _ _ _ _; rw [hn]; simpa using Heap.get?_push_size _ rfl) (fun b hb => ?_)
    (F.keeps fun _ _ e => Heap.get?_push_of_some _ e) (N.grown fun _ _ e => Heap.get?_push_of_some _ e) (Nat.ne_of_lt F.ns.lt) (next_is_new F) (fun p hp => Nat.ne_of_lt (Heap.lt_size (N p hp).1)) trivial (R _) ?_
  · have st' : h.get? s₁.heap.objs.size = some _ := st
    show h'.get? s₁.heap.objs.size = some _
    rw [e', ← e]
    exact st'
  · rw [List.mem_singleton.mp hb]
    show s₁.heap.objs.size < (s₁.heap.push _).objs.size
    rw [Heap.size_push]
    exact Nat.lt_succ_self _
  · intro D C h tk m' ys news' F' N' o1 hn hC₀ hD₀ hCL hDL hCD offC fin
    refine ⟨m', hn, fun h'' hs'' => fin D h'' tk (F'.change hs'' hCL hC₀) (fun p hp => ⟨hs''.extBut _ _ ?_ (N' p hp).1, (N' p hp).2⟩) o1⟩
    rcases List.mem_cons.mp hp with rfl | hp
    · exact Ne.symm hCD
    · exact offC p hp
end
/-- the pairs that words js say, as data -/
def nd (i : Nat) : PyData := .tuple [.int (wdN i).1, .int (wdN i).2]
def pdt (js : List Nat) (k : Nat) : PyData := .tuple [nd (js.getD (2 * k) 0), nd (js.getD (2 * k + 1) 0)]
def pds (js : List Nat) (n : Nat) : List PyData := (List.range n).map (pdt js)
theorem pds_succ (js : List Nat) (n : Nat) : pds js (n + 1) = pds js n ++ [pdt js n] := by
  unfold pds
  rw [List.range_succ, List.map_append, List.map_singleton]
abbrev tupOf (vs : List Value) : Obj := { cls := .type "tuple", data := .seq vs.toArray }
inductive PairsAt (own : List (Addr × Obj)) : List Value → List PyData → Prop
  | nil : PairsAt own [] []
  | snoc {t : Addr} {a b : Value} {i j : Nat} {ys : List Value} {ds : List PyData} : PairsAt own ys ds → (t, tupOf [a, b]) ∈ own → NumAt own a i → NumAt own b j → PairsAt own (ys ++ [.ref t]) (ds ++ [.tuple [nd i, nd j]])
theorem NumAt.mono {news news' : List (Addr × Obj)} {v : Value} {i : Nat} (h : NumAt news v i) (hs : ∀ p ∈ news, p ∈ news') : NumAt news' v i := by
  obtain ⟨z, tp, tq, e, hm⟩ := h
  exact ⟨z, tp, tq, e, hs _ hm⟩
theorem PairsAt.mono {own own' : List (Addr × Obj)} {ys : List Value} {ds : List PyData} (h : PairsAt own ys ds) (hs : ∀ p ∈ own, p ∈ own') : PairsAt own' ys ds := by
  induction h with
  | nil => exact .nil
  | snoc _ hm ha hb ih => exact .snoc ih (hs _ hm) (ha.mono hs) (hb.mono hs)
theorem readsAll_app {h : Heap} : ∀ {vs : List Value} {ds : List PyData} {ws : List Value} {es : List PyData}, ReadsAll h vs ds [] → ReadsAll h ws es [] → ReadsAll h (vs ++ ws) (ds ++ es) []
  | [], [], _, _, _, b => b
  | v :: vs, d :: ds, _, _, a, b => by
    generalize e : ([] : List Addr) = as at a
    cases a with
    | cons h1 h2 =>
      obtain ⟨rfl, rfl⟩ := List.append_eq_nil_iff.mp e.symm
      exact readsAll_cons_val h1 (readsAll_app h2 b)
  | [], _ :: _, _, _, a, _ => by cases a
  | _ :: _, [], _, _, a, _ => by cases a
theorem num_reads {h₀ h : Heap} {L : Addr} {own all : List (Addr × Obj)} {v : Value} {i : Nat} (N : News h₀ L h all) (hs : ∀ p ∈ own, p ∈ all) (hv : NumAt own v i) : Reads h v (nd i) [] := by
  obtain ⟨z, tp, tq, rfl, hm⟩ := hv
  exact reads_tuple_at (N _ (hs _ hm)).1 rfl rfl (readsAll_cons_val (Reads.int _ _) (readsAll_cons_val (Reads.int _ _) .nil))
theorem pairs_reads {h₀ h : Heap} {L : Addr} {own all : List (Addr × Obj)} {ys : List Value} {ds : List PyData} (N : News h₀ L h all) (hs : ∀ p ∈ own, p ∈ all) (hp : PairsAt own ys ds) : ReadsAll h ys ds [] := by
  induction hp with
  | nil => exact .nil
  | snoc _ hm ha hb ih =>
    refine readsAll_app ih (readsAll_cons_val ?_ .nil)
    exact reads_tuple_at (N _ (hs _ hm)).1 rfl rfl (readsAll_cons_val (num_reads N hs ha) (readsAll_cons_val (num_reads N hs hb) .nil))
theorem pds_has (js : List Nat) (n : Nat) : (PySem.Spec.Shape.list (.tuple [.tuple [.int, .int], .tuple [.int, .int]])).has (.list (pds js n)) = true :=
  list_map_has fun k => by simp [pdt, nd, PySem.Spec.Shape.has, PySem.Spec.Shape.hasAll]
theorem pds_lay (js : List Nat) : ∀ l : List Nat, PyData.canLayAll0 (l.map (pdt js)) = true ∧ PyData.depthAll (l.map (pdt js)) ≤ 2
  | [] => ⟨rfl, by simp [PyData.depthAll]⟩
  | k :: l => by
    obtain ⟨h1, h2⟩ := pds_lay js l
    refine ⟨by simp [PyData.canLayAll0, h1, pdt, nd, PyData.canLay0], ?_⟩
    rw [List.map_cons, PyData.depthAll]
    refine Nat.max_le.mpr ⟨?_, h2⟩
    simp [pdt, nd, PyData.depth, PyData.depthAll]
theorem pds_shaped (js : List Nat) (n : Nat) : SeqAt.shaped (.list (pds js n)) = true := by
  obtain ⟨h1, h2⟩ := pds_lay js (List.range n)
  unfold SeqAt.shaped pds
  rw [Bool.and_eq_true]
  refine ⟨by rw [PyData.canLay0]; exact h1, decide_eq_true ?_⟩
  rw [PyData.depth]
  omega
section
variable {prog : Program} {w : World} {A : Around} {E : Value → Shared → Prop} {s : Shared} {h₀ : Heap} {L l l2 : Addr} {own own2 all : List (Addr × Obj)} {ys ys2 : List Value} {js : List Nat} {n k k2 : Nat} {Q : Value → Shared → Prop}
theorem list_reads (N : News h₀ L s.heap all) (hs : ∀ p ∈ own, p ∈ all) (hl : (l, listOf ys.toArray k) ∈ all) {ds : List PyData} (hp : PairsAt own ys ds) : Reads s.heap (.ref l) (.list ds) [l] :=
  reads_list_at (N _ hl).1 rfl rfl (pairs_reads N hs hp)
theorem pairs_eq (N : News h₀ L s.heap all) (hl : (l, listOf ys.toArray k) ∈ all) (hl2 : (l2, listOf ys2.toArray k2) ∈ all) (hs : ∀ p ∈ own, p ∈ all) (hs2 : ∀ p ∈ own2, p ∈ all)
    (hp : PairsAt own ys (pds js n)) (hp2 : PairsAt own2 ys2 (pds js n)) (hu : A.units + 64 < cLine) (h : Q (.bool true) s) : wpAny (model prog w) A (compareOp .Eq (.ref l) (.ref l2)) Q E s :=
  eq_dataH_same (list_reads N hs hl hp) (list_reads N hs2 hl2 hp2) (pds_shaped _ _) (pds_shaped _ _) hu (SeqAt.noMix_of_shape _ rfl _ _ (pds_has js n) (pds_has js n)) (by rw [PySem.Spec.same_self]; exact h)
theorem pairs_ne (N : News h₀ L s.heap all) (hl : (l, listOf ys.toArray k) ∈ all) (hl2 : (l2, listOf ys2.toArray k2) ∈ all) (hs : ∀ p ∈ own, p ∈ all) (hs2 : ∀ p ∈ own2, p ∈ all)
    (hp : PairsAt own ys (pds js n)) (hp2 : PairsAt own2 ys2 (pds js n)) (hu : A.units + 64 < cLine) (h : Q (.bool false) s) : wpAny (model prog w) A (compareOp .NotEq (.ref l) (.ref l2)) Q E s :=
  ne_dataH_same (list_reads N hs hl hp) (list_reads N hs2 hl2 hp2) (pds_shaped _ _) (pds_shaped _ _) hu (SeqAt.noMix_of_shape _ rfl _ _ (pds_has js n) (pds_has js n)) (by rw [PySem.Spec.same_self]; exact h)
end
theorem Nums.get {own : List (Addr × Obj)} {vs : List Value} {js : List Nat} (h : Nums own vs js) : ∀ {k : Nat} {v : Value}, vs[k]? = some v → NumAt own v (js.getD k 0) := by
  induction h with
  | nil => intro k v e; simp at e
  | @snoc v' i vs js hn hv ih =>
    intro k v e
    have hl := hn.len
    rw [List.getD_eq_getElem?_getD]
    by_cases hk : k < vs.length
    · rw [List.getElem?_append_left hk] at e
      have := ih e
      rw [List.getD_eq_getElem?_getD] at this
      rw [List.getElem?_append_left (by omega)]
      exact this
    · rw [List.getElem?_append_right (by omega)] at e
      rw [List.getElem?_append_right (by omega)]
      have hz : k - vs.length = 0 := by
        cases z : k - vs.length with
        | zero => rfl
        | succ q => rw [z] at e; simp at e
      rw [hz] at e
      rw [show k - js.length = 0 by omega]
      simp at e
      subst e
      exact hv

end
section
section
variable {prog : Program} {w : World} {A₀ A : Around} {s : Shared} {base h₀ : Heap} {L : Addr} {m : Str → Option Value} {env : Env} {news : List (Addr × Obj)} {K : Frag} {p : Program} {loose : List Str} {mean : ExcName → Option Value} {mg mb : Str → Option Value}
  {R : Result → Shared → Prop} {name qual : Str} {params : Arguments} {body : List Stmt} {scope : Scope} {dV kV doc pm cdv ct oc : Value} {an od : Option Addr} {osl : Array (Option Value)} {f : Addr} {args : Args} {binds : List (Str × Value)}
/-- a def with cells is entered from a frame that nothing stands below; what it catches may turn that frame's slots -/
theorem enter_cells (B : Below A₀ base [] h₀) (F : Fr h₀ L s.heap m) (X₀ : K.In h₀) (N : News h₀ L s.heap news) (T : Top p loose mean mg mb h₀) (hA : A.frames = some [env]) (hf : env.frame = some L) (hke : env.scope.kind = .function)
    (ho : K.lookup f = some ⟨oc, od, .func (fnOf name qual params body scope dV kV doc pm an cdv ct), osl⟩) (hcd : codeIn K cdv qual = true) (hroom : A.depth < recursionLimit)
    (hbind : BindsTo s (fnOf name qual params body scope dV kV doc pm an cdv ct) args binds) (hkind : (binds.all fun y => scope.names.lookup y.1 == some .local || scope.names.lookup y.1 == some .cell) = true)
    (hnd : ((cellsFrom 0 scope.names []).map (·.1)).Nodup)
    (h : ∀ g L' h₁ tk cells, Fr h₀ L g m → Fr g L' h₁ (bindL (envOfC qual scope L' f cdv).kindOf binds fun _ => none) → News g L' h₁ (cells ++ news) →
      CellsAre (bindC (envOfC qual scope L' f cdv).kindOf binds fun _ => none) (cellsFrom (L' + 1) scope.names []) cells → Below A base [env] g → K.In g → Top p loose mean mg mb g → (∀ p ∈ news, p.1 < L') →
      wpAny (model prog w) (A.deeper (envOfC qual scope L' f cdv)) (execs body (envOfC qual scope L' f cdv))
        (fun fl s' => LeaveS0 ([env].filterMap (·.frame)) h₀ L m g R (match fl with | .ret v => v | _ => .none) s')
        (fun e s' => wpAny (model prog w) (A.deeper (envOfC qual scope L' f cdv)) (leaving (envOfC qual scope L' f cdv) e) (fun _ s'' => R (.error e) s'') (fun e' s'' => R (.error e') s'') s')
        { s with heap := h₁, toks := tk })
    (hco : scope.isCoroutine = false) (hgen : scope.isGenerator = false) (hk : scope.kind = .function) : codeAny (model prog w) A (.call (.ref f) args) R s := by
  obtain ⟨FG, BG, st, _⟩ := groundX (R := R) B F N hA hf hke
  obtain ⟨oL, es, ep, hL, hLd, hLk, hLf⟩ := FG.ns
  refine codeAny_call_function hroom ((X₀.keeps F.keep) _ _ ho) rfl hco hgen rfl (codeRec_of (X₀.keeps F.keep) hcd) (hbind _ _ _ _ ?_)
  refine wpAny_newFunctionEnv_cells hk (kindsX hkind _) fun env' he s' x => ?_
  subst he
  refine ⟨(T.nolimit.keeps F.keep).keeps x.toInCall.keep, codeAny_func ?_⟩
  obtain ⟨h₁, tk, rfl, _⟩ := x.done
  have hk₁ := x.toInCall.keep
  obtain ⟨cells, NC, Y⟩ := Cl.news (h₀ := s.heap) (Nat.le_refl _) fun n c hm => ⟨x.cell n c (lookup_of_mem_nodup (cellsFrom_names scope.names 0 (s.heap.objs.size + 1) [] [] rfl ▸ hnd) hm), x.above n c hm⟩
  refine wpAny_mono (h _ s.heap.objs.size h₁ tk cells FG ⟨x.toInCall.ns, fun b o e => hk₁ b o (of_hideAll _ e), Nat.le_of_eq (hideAll_size _ _)⟩ (fun p hp => ?_) Y BG (X₀.keeps st) (T.keeps st) (fun p hp => Heap.lt_size (N p hp).1)) (fun fl s' hl => ?_) fun _ _ y => y
  · rcases List.mem_append.mp hp with hp | hp
    · refine ⟨(NC p hp).1, (NC p hp).2.1, ?_⟩
      cases q : (hideAll s.heap (news.map (·.1))).get? p.1 with
      | none => rfl
      | some o => have := of_hideAll _ q; rw [(NC p hp).2.2] at this; cases this
    · exact ⟨hk₁ _ _ (N p hp).1, Nat.ne_of_lt (Heap.lt_size (N p hp).1), hideAll_none _ (List.mem_map_of_mem hp)⟩
  · obtain ⟨g', L', m', news', T', F', N', k⟩ := hl
    have nL₀ : h₀.get? L = none := kts_self F
    have off : ∀ b o, h₀.get? b = some o → b ∉ [env].filterMap (·.frame) := fun b o e q => by
      rw [List.filterMap_cons, hf] at q
      rcases List.mem_cons.mp q with z | z
      · rw [z, nL₀] at e; cases e
      · simp at z
    obtain ⟨sl, hs⟩ := T'.up hL
    refine k ⟨⟨_, es, ep, F'.keep _ _ hs, hLd, hLk, hLf⟩, fun b o e => F'.keep b o (T'.other b o (st b o e) (off b o e)), F.above⟩ fun p hp => ⟨(N' p hp).1, fun q => ?_, ?_⟩
    · have := (N' p hp).2.2; rw [q, hs] at this; cases this
    · cases q : h₀.get? p.1 with
      | none => rfl
      | some o =>
        obtain ⟨sl', hs'⟩ := T'.up (st _ _ q)
        have := (N' p hp).2.2
        rw [hs'] at this; cases this
end
section
variable {prog : Program} {w : World} {A₀ : Around} {E : Value → Shared → Prop} {s' : Shared} {base g G : Heap} {outer : List Env} {L a e C : Addr} {m : Str → Option Value} {name : Str} {scope : Scope} {cd : Value} {cl : List (Str × Addr)}
  {b₀ : Stmt} {suite : List Stmt} {pos np : Pos} {rest : List ExceptHandler} {Q : Flow → Shared → Prop} {news : List (Addr × Obj)} {KF : Frag}
  {p : Program} {loose : List Str} {mean : ExcName → Option Value} {mg mb : Str → Option Value} {x : Str}
/-- caught by its own class, without a name, in a def that has cells -/
theorem caught_C0 (R : RaisedSN base G (envX name scope L a cd cl :: outer) e (.ref C) news s'.heap) (F : Fr g L G m) (K : Below A₀ base outer g) (hsm : G.UpToSlots s'.heap) (XB : KF.In base) (TB : Top p loose mean mg mb base)
    (ex : nsIn KF mainGlobals x = some (some (.ref C))) (q : excK KF C = true)
    (k : ∀ h' g', KtsTurn (outer.filterMap (·.frame)) g g' → Fr g' L h' m → News g' L h' news → Below A₀ base outer g' → KF.In g' → Top p loose mean mg mb g' →
      wpAny (model prog w) ((A₀.deeper (envX name scope L a cd cl)).mark (some (.ref e))) (execs (b₀ :: suite) (envX name scope L a cd cl)) Q E { s' with heap := h' })
    (hk : scope.kind = .function) (hx : (envX name scope L a cd cl).kindOf x = some .globalImplicit) (hd : (x == ("__debug__" : Str)) = false)
    (hE : PassesOwnAt (model prog w) ((A₀.deeper (envX name scope L a cd cl)).mark (some (.ref e))) (A₀.deeper (envX name scope L a cd cl)) (envX name scope L a cd cl) E) :
    wpAny (model prog w) (A₀.deeper (envX name scope L a cd cl)) (noteFrame (.ref e) (envX name scope L a cd cl))
      (fun _ s₂ => wpAny (model prog w) (A₀.deeper (envX name scope L a cd cl)) (setFlight (.ref e) none) (fun _ s₃ =>
        wpAny (model prog w) (A₀.deeper (envX name scope L a cd cl)) (handleBy (.ref e) (envX name scope L a cd cl) (.ExceptHandler (some (.Name x np)) none (b₀ :: suite) pos :: rest)) Q E s₃) E s₂) E s' := by
  obtain ⟨B, a0, hB, hBG, hl, hfl⟩ := R
  have hL : B.get? L = none := by
    obtain ⟨_, ⟨L', _, hf, hn', _⟩, _⟩ := hfl.2.2.1
    obtain rfl : L = L' := Option.some.inj hf
    exact hn'
  have hBG' : ∀ b o, G.get? b = some o → b ∉ (envOf name scope L a cd :: outer).filterMap (·.frame) → B.get? b = some o := hBG
  refine wpAny_looks_onW (Around.frames_deeper K.stack) rfl hfl fun h₄ hheld₄ hsm₄ => ?_
  refine wpAny_landsW hheld₄ fun h₅ hheld hsm₅' => ?_
  have hsm₅ := hsm₄.trans hsm₅'
  obtain ⟨g₅, T₅, F₅, K₅⟩ := kts_ground K F hBG' hheld.1 (hsm.trans hsm₅)
  have X₅ : KF.In g₅ := XB.keeps K₅.stays
  have P₅ : TopRead p loose mg mb g₅ := topRead_of (TB.keeps K₅.stays)
  obtain ⟨ob, hob, hobc⟩ := hheld.there
  refine wpAny_handleBy_cons (codeAny_handlers_test (nameX_K F₅ X₅ P₅ ex ?_ hk hx hd)) (by intro q; cases q)
  obtain ⟨bm, nm, qn, N, bs, hdct, sn, sub, ab, col, ddc, k0, k1, k2, k3, k5, hC, c1, c2, c3, c4⟩ := (excK_of (X₅.keeps F₅.keep) q).obj
  refine wpAny_excMatches_sub_self hC hob hobc c2 (codeAny_handlers_suite ?_)
  refine lands_againW hheld fun h₆ hfl₆ hsm₆ => ?_
  obtain ⟨g₆, T₆, F₆, K₆⟩ := kts_ground K F hBG' hfl₆.1 ((hsm.trans hsm₅).trans hsm₆)
  have Nl : News g₆ L h₆ news := fun q hq => ⟨hfl₆.1 _ _ (hl q hq).1, (fun z => by have := (hl q hq).1; rw [z, hL] at this; cases this), T₆.none_ _ (kts_none F.keep (hl q hq).2.1)⟩
  exact wpAny_passesOwnAt hE (k h₆ g₆ T₆ F₆ Nl K₆ (XB.keeps K₆.stays) (TB.keeps K₆.stays))
end
/-- a while by a property of the state and a number that every turn lowers -/
theorem whl_by {prog : Program} {w : World} {A : Around} {E : Value → Shared → Prop} {env : Env} {test : PySem.Expr} {body orelse : List Stmt} {Q : Flow → Shared → Prop} (hE : PassesOwn (model prog w) A env E) (P : Nat → Shared → Prop)
    (turn : ∀ n s, P n s → wpAny (model prog w) A (isTrue test env (eval test env)) (fun b s₂ => WhlIf b (wpAny (model prog w) A (execs body env) (fun f s' => match f with | .next => id (∃ n', n' < n ∧ P n' s') | .cont => id (∃ n', n' < n ∧ P n' s') | .brk => Q .next s' | .ret v => Q (.ret v) s') E s₂) (wpAny (model prog w) A (execs orelse env) Q E s₂)) E s) :
    ∀ n s, P n s → WhlRest prog w A E env test body orelse Q 0 s := by
  intro n
  induction n using Nat.strongRecOn with
  | ind n ih =>
    intro s hP
    refine whl_turn (k := 0) hE (wpAny_mono (turn n s hP) (fun b s₂ z => ?_) fun _ _ z => z)
    cases b with
    | false => exact z
    | true =>
      refine WhlIf.yes rfl ?_
      unfold WhlIf at z
      rw [if_pos rfl] at z
      refine wpAny_mono z (fun f s₃ y => ?_) fun _ _ y => y
      cases f with
      | next => obtain ⟨n', hn, hP'⟩ := y; exact ih n' hn s₃ hP'
      | cont => obtain ⟨n', hn, hP'⟩ := y; exact ih n' hn s₃ hP'
      | brk => exact y
      | ret v => exact y

end
section
theorem str_of_list {S T : Str} (h : S.cps.toList = T.cps.toList) : S = T := by
  obtain ⟨⟨a⟩⟩ := S
  obtain ⟨⟨b⟩⟩ := T
  have h' : a = b := h
  rw [h']
section
variable {w : World} {mean : ExcName → Option Value} {mg mb : Str → Option Value} {T : Str} {k : Int} {x d : Addr} {ta tb tc td : Tok} {news : List (Addr × Obj)} {news' : Int → Tok → List (Addr × Obj)}
  {dp un : Nat} {gd : Option (List Code)} {cn : Str} {cs : Scope} {a : Addr} {ccd : Value} {cl : List (Str × Addr)} {outer : List Env} {A₀ : Around} {base h₀ : Heap} {L : Addr} {m : Str → Option Value} {s : Shared} {Q E : Value → Shared → Prop}
/-- number reads word i -/
theorem number_use (hT : Short T) (hk : 0 ≤ k) {i : Nat} (hi : i < 11) (hm : manyL (tl T k) ≠ 0) (hw : (tl T k).take (numL (tl T k)) = wlL i)
    (B : Below A₀ base outer h₀) (F : Fr h₀ L s.heap m) (X : (hd.heap_39 w.params).In h₀) (N : News h₀ L s.heap news) (TT : Top hd.view_39 (looseW hd.view_39 [Str.ofString "MOST_VALUE", Str.ofString "fraction"]) mean mg mb h₀) (hck : cs.kind = .function)
    (hx : (x, instObj 244 d) ∈ news) (hlt : @LT.lt Nat _ d x) (Up : ∀ i td', Upd d (dictOf [⟨PyData.keyHash w.params (Str.ofString "text"), .str (Str.ofString "text") ta, .str T tb⟩, ⟨PyData.keyHash w.params (Str.ofString "at"), .str (Str.ofString "at") tc, .int k td⟩] 2) (dictOf [⟨PyData.keyHash w.params (Str.ofString "text"), .str (Str.ofString "text") ta, .str T tb⟩, ⟨PyData.keyHash w.params (Str.ofString "at"), .str (Str.ofString "at") tc, .int i td'⟩] 2) news (news' i td'))
    (hdp : dp + 16 < recursionLimit) (hun : un + 160 < cLine)
    (hret : ∀ y h' tk' td' tp tq, Fr h₀ L h' m → News h₀ L h' ((y, tupOf [.int (wdN i).1 tp, .int (wdN i).2 tq]) :: news' (numEnd T k) td') → (∀ p ∈ news, p.1 < y) → Q (.ref y) { s with heap := h', toks := tk' }) :
    wpAny (model PySem.Challenge.rw_xm0729_01.row.prog w) (ktrTop dp un gd cn cs L a ccd cl outer) (call (.ref 227) [.ref x]) Q E s := by
  obtain ⟨pre, post, e1, _, n1, n2⟩ := (Up k td).split
  have hne : ∀ p ∈ pre ++ post, p.1 ≠ d := fun p hp => (List.mem_append.mp hp).elim (n1 p) (n2 p)
  have hpart : part T k (numEnd T k) = wdS i := by
    rw [part_tl hk, hw]
    exact str_of_list (wlL_of hi).symm
  refine c_number w mean mg mb T hT k hk (by rw [many_tl hk]; omega) (fun l => ∃ t u, l = [.int (wdN i).1 t, .int (wdN i).2 u]) (fun j hj tt => by rw [hj, hpart]; exact c_rd_all w mean mg mb hi tt) x d hlt (pre ++ post) ta tb tc td hne dp un gd cn cs a ccd cl outer A₀ base h₀ L m s Q E B F X (fun p hp => N p ?_) TT hck hdp hun
    fun y l h' tk' td' i' hi' _ hl F' N' l1 l2 => ?_
  · rw [e1]
    rcases List.mem_cons.mp hp with rfl | hp
    · exact List.mem_append_right _ (.head _)
    · rcases List.mem_cons.mp hp with rfl | hp
      · rw [e1] at hx; exact hx
      · rcases List.mem_append.mp hp with hp | hp
        · exact List.mem_append_left _ hp
        · exact List.mem_append_right _ (.tail _ hp)
  · obtain ⟨tp, tq, rfl⟩ := hl
    subst hi'
    refine hret y h' tk' td' tp tq F' (fun p hp' => N' p ?_) fun p hp => ?_
    · rcases List.mem_cons.mp hp' with rfl | hp'
      · exact .head _
      · obtain ⟨pre', post', e1', e2', n1', n2'⟩ := (Up (numEnd T k) td').split
        obtain ⟨ep, eo⟩ : pre' = pre ∧ post' = post := upd_same (e1'.symm.trans e1) n1' n1
        subst ep eo
        rw [e2'] at hp'
        rcases List.mem_append.mp hp' with hp' | hp'
        · exact .tail _ (.tail _ (.tail _ (List.mem_append_left _ hp')))
        · rcases List.mem_cons.mp hp' with rfl | hp'
          · exact .tail _ (.head _)
          · exact .tail _ (.tail _ (.tail _ (List.mem_append_right _ hp')))
    · rw [e1] at hp
      rcases List.mem_append.mp hp with hp | hp
      · exact l1 p (.tail _ (List.mem_append_left _ hp))
      · rcases List.mem_cons.mp hp with rfl | hp
        · exact l2
        · exact l1 p (.tail _ (List.mem_append_right _ hp))
/-- number faults -/
theorem number_bad (hT : Short T) (hk : 0 ≤ k) (hbad : manyL (tl T k) = 0 ∨ (manyL (tl T k) ≠ 0 ∧ (tl T k).take (numL (tl T k)) = [49, 101, 51, 48, 49])) {rest : List (Addr × Obj)}
    (B : Below A₀ base outer h₀) (XB : (hd.heap_39 w.params).In base) (TB : Top hd.view_39 (looseW hd.view_39 [Str.ofString "MOST_VALUE", Str.ofString "fraction"]) mean mg mb base) (F : Fr h₀ L s.heap m) (X : (hd.heap_39 w.params).In h₀) (N : News h₀ L s.heap news) (TT : Top hd.view_39 (looseW hd.view_39 [Str.ofString "MOST_VALUE", Str.ofString "fraction"]) mean mg mb h₀) (hck : cs.kind = .function)
    (hx : (x, instObj 244 d) ∈ news) (hd : (d, dictOf [⟨PyData.keyHash w.params (Str.ofString "text"), .str (Str.ofString "text") ta, .str T tb⟩, ⟨PyData.keyHash w.params (Str.ofString "at"), .str (Str.ofString "at") tc, .int k td⟩] 2) ∈ news) (hlt : @LT.lt Nat _ d x) (hne : ∀ p ∈ rest, p.1 ≠ d) (hsub : ∀ p ∈ rest, p ∈ news)
    (hdp : dp + 18 < recursionLimit) (hun : un + 180 < cLine)
    (hret : ∀ g e h' tk', Fr h₀ L g m → RaisedSN base g (envX cn cs L a ccd cl :: outer) e (.ref 70) rest h' → g.UpToSlots h' → E (.ref e) { s with heap := h', toks := tk' }) :
    wpAny (model PySem.Challenge.rw_xm0729_01.row.prog w) (ktrTop dp un gd cn cs L a ccd cl outer) (call (.ref 227) [.ref x]) Q E s := by
  have N' : News h₀ L s.heap ((d, dictOf [⟨PyData.keyHash w.params (Str.ofString "text"), .str (Str.ofString "text") ta, .str T tb⟩, ⟨PyData.keyHash w.params (Str.ofString "at"), .str (Str.ofString "at") tc, .int k td⟩] 2) :: (x, instObj 244 d) :: rest) := news_pick N hd (fun p hp => by
    rcases List.mem_cons.mp hp with rfl | hp
    · exact hx
    · exact hsub p hp)
  rcases hbad with hm | ⟨hm, hw⟩
  · exact c_numE1 w mean mg mb T hT k hk (by rw [many_tl hk, hm]; rfl) x d hlt rest ta tb tc td hne dp un gd cn cs a ccd cl outer A₀ base h₀ L m s Q E B F X N' TT hck (by omega) (by omega) fun g e dd h' tk' F' R U => hret g e h' tk' F' R.1 U
  · exact c_numE2 w mean mg mb T hT k hk (by rw [many_tl hk]; omega) (by rw [part_tl hk, hw]; decide +kernel) x d hlt rest ta tb tc td hne dp un gd cn cs a ccd cl outer A₀ base h₀ L m s Q E B XB TB F X N' TT hck hdp hun fun g e h' tk' F' R U => hret g e h' tk' F' R U
end

end
theorem laid23 : True := by
  k_with "call ref" => (k_here; (try dsimp only [List.append_nil, List.cons_append, List.nil_append]); (with_reducible show wpAny _ _ (call (Value.ref 192) [Value.ref _]) _ _ _); k_dflt (refine' sc_use (c_spaces _ _ _ _ _ ?hzhT _ ?hzh0) ?hzB ?hzF ?hzX ?hzN ?hzT ?hzck ?hzhx ?hzlt ?hzU ?hzdp ?hzun ?_; (case hzB => k_asm); (case hzF => k_asm); (case hzX => k_asm); (case hzN => k_asm); (case hzT => k_asm); (case hzck => first | exact rfl | assumption); (case hzhx => k_mem); (case hzlt => assumption); (case hzU => intro i td'; k_upd); (case hzhT => assumption); (case hzh0 => first | decide | omega); (case hzdp => ktr_room); (case hzun => ktr_units)); intro r' hh6 tk9' td9 i9 hP' F9 N9; obtain ⟨hr', hi9, hl9⟩ := hP'; subst hr'; (try k_sweep))
  k_with "call ref" => (k_here; (try dsimp only [List.append_nil, List.cons_append, List.nil_append]); (with_reducible show wpAny _ _ (call (Value.ref 199) [Value.ref _]) _ _ _); k_dflt (refine' sc_use (c_separator _ _ _ _ _ ?hzhT _ ?hzh0) ?hzB ?hzF ?hzX ?hzN ?hzT ?hzck ?hzhx ?hzlt ?hzU ?hzdp ?hzun ?_; (case hzB => k_asm); (case hzF => k_asm); (case hzX => k_asm); (case hzN => k_asm); (case hzT => k_asm); (case hzck => first | exact rfl | assumption); (case hzhx => k_mem); (case hzlt => assumption); (case hzU => intro i td'; k_upd); (case hzhT => assumption); (case hzh0 => first | decide | omega); (case hzdp => ktr_room); (case hzun => ktr_units)); intro r' h' tk' td' i' hP' F' N'; obtain ⟨⟨b9, hr'⟩, hi', hl'⟩ := hP'; subst hr'; (try k_sweep))
  k_with "call ref" => (k_here; (try dsimp only [List.append_nil, List.cons_append, List.nil_append]); (with_reducible show wpAny _ _ (call (Value.ref 206) [Value.ref _]) _ _ _); k_dflt (refine' sc_use (c_looks _ _ _ _ _ ?hzhT _ ?hzh0) ?hzB ?hzF ?hzX ?hzN ?hzT ?hzck ?hzhx ?hzlt ?hzU ?hzdp ?hzun ?_; (case hzB => k_asm); (case hzF => k_asm); (case hzX => k_asm); (case hzN => k_asm); (case hzT => k_asm); (case hzck => first | exact rfl | assumption); (case hzhx => k_mem); (case hzlt => assumption); (case hzU => intro i td'; k_upd); (case hzhT => assumption); (case hzh0 => first | decide | omega); (case hzdp => ktr_room); (case hzun => ktr_units)); intro r' h' tk' td' i' hP' F' N'; obtain ⟨hr', hi', hl'⟩ := hP'; subst hr'; replace hi' := hi'.symm; subst hi'; (try k_sweep))
  k_with "exec While Call" => (k_here; refine parked ?_)
  k_with "exec While" => (k_here; refine parked ?_)
  k_with "call ref" => (k_here; (try dsimp only [List.append_nil, List.cons_append, List.nil_append]); (with_reducible show wpAny _ _ (call (Value.ref 227) [Value.ref _]) _ _ _); refine parked ?_)
  k_with "eval ListComp" => (k_here; refine parked ?_)
  k_with "WhlIf" => first | refine WhlIf.yes (by assumption) ?_ | refine WhlIf.no (by assumption) ?_
  k_with "call builtin:list.append" => (k_here; (with_reducible show wpAny _ _ (call (Value.builtin _) [Value.ref _, _]) _ _ _); k_dflt (refine' append_K ?hzk1 ?hzk2 ?hzk3 ?_ ?hzz; (case hzk1 => k_asm); (case hzk2 => k_asm); (case hzk3 => k_upd); (case hzz => first | size_fits | (simp only [List.size_toArray, List.length_append, List.length_cons, List.length_nil, sizeLine_eq]; omega)); k_whole); intro h' F' N'; (try k_sweep))
  k_with "exec Try" => ((with_reducible show wpAny _ _ (exec (Stmt.Try _ (_ :: _) _ [] _) _) _ _ _); refine wpAny_Try_except ?_)
  k_with "call builtin:len" => (k_here; (with_reducible show wpAny _ _ (call (Value.builtin "len") [Value.ref _]) _ _ _); k_dflt (refine' r_llen ?hzN ?hzm ?hzz ?_; (case hzN => k_asm); (case hzm => k_mem); (case hzz => omega)))
  k_with "subscriptTail" => (k_here; (with_reducible show wpAny _ _ (subscriptTail _ _ (Value.ref _) (Value.int _ _)) _ _ _); k_dflt (refine' r_li ?hzN ?hzm ?hza ?hzb ?hzx ?_; (case hzN => k_asm); (case hzm => k_mem); (case hza => omega); (case hzb => omega); (case hzx => assumption)))
  trivial
section
/-- what stands behind a while, told apart from its turns -/
theorem whl_split {prog : Program} {w : World} {A : Around} {E : Value → Shared → Prop} {env : Env} {test : PySem.Expr} {body orelse : List Stmt} {Q : Flow → Shared → Prop} {s : Shared} (D : Shared → Prop) (done : ∀ s', D s' → Q .next s')
    (loop : WhlRest prog w A E env test body orelse (fun f s' => match f with | .next => D s' | f => Q f s') 0 s) : WhlRest prog w A E env test body orelse Q 0 s := by
  unfold WhlRest at loop ⊢
  refine codeAny_mono loop fun r s' z => ?_
  cases r with
  | error e => exact z
  | ok f => cases f with
    | next => exact done s' z
    | cont => exact z
    | brk => exact z
    | ret v => exact z
theorem tl_zero (T : Str) : tl T 0 = T.cps.toList := by
  unfold tl
  simp
theorem mem_skip2 {α : Type} {p a b c d : α} {r : List α} (h : p ∈ a :: d :: r) : p ∈ a :: b :: c :: d :: r := by
  rcases List.mem_cons.mp h with rfl | h
  · exact .head _
  · exact .tail _ (.tail _ (.tail _ h))
theorem scan_next {T : Str} {i : Int} (h : 0 ≤ i) : tl T (sepEnd T (numEnd T i)) = (tl T i).drop (numL (tl T i) + sepL ((tl T i).drop (numL (tl T i)))) := by
  have e := numEnd_tl (T := T) h
  rw [sepEnd_tl (by omega), e, tl_add _ h, show i + ((numL (tl T i) : Nat) : Int) + ((sepL ((tl T i).drop (numL (tl T i))) : Nat) : Int) = i + ((numL (tl T i) + sepL ((tl T i).drop (numL (tl T i))) : Nat) : Int) by omega, tl_add _ h]
theorem sep_nn {T : Str} {i : Int} (h : 0 ≤ i) : 0 ≤ sepEnd T (numEnd T i) := by
  have e := numEnd_tl (T := T) h
  have := sepEnd_ge T (numEnd T i)
  omega
theorem mem_rot {α : Type} {p a b c d y : α} {r : List α} (h : p ∈ a :: b :: c :: d :: y :: r) : p ∈ y :: a :: b :: c :: d :: r := by
  simp only [List.mem_cons] at h ⊢
  rcases h with h | h | h | h | h | h
  · exact .inr (.inl h)
  · exact .inr (.inr (.inl h))
  · exact .inr (.inr (.inr (.inl h)))
  · exact .inr (.inr (.inr (.inr (.inl h))))
  · exact .inl h
  · exact .inr (.inr (.inr (.inr (.inr h))))
theorem six {n : Nat} (h : n ≤ 6) : n = 0 ∨ n = 1 ∨ n = 2 ∨ n = 3 ∨ n = 4 ∨ n = 5 ∨ n = 6 := by omega
theorem rng_small {n : Nat} (h : n ≤ 6) : Builtin.Range.small 0 ((n : Int) - 1) 2 = true := by
  rcases six h with rfl | rfl | rfl | rfl | rfl | rfl | rfl <;> decide
theorem rng_size {n : Nat} (h : n ≤ 6) : Builtin.Range.rangeSize 0 ((n : Int) - 1) 2 = ((n / 2 : Nat) : Int) := by
  rcases six h with rfl | rfl | rfl | rfl | rfl | rfl | rfl <;> decide
/-- behind a turn of the comprehension -/
theorem pair_end {h₀ h' : Heap} {L I C D y l c : Addr} {m : Str → Option Value} {oI oC oc ol : Obj} {s₁ : Shared} {tk : Nat} {ys : List Value} {va vb : Value} {js : List Nat} {i : Nat} {own own' : List (Addr × Obj)} {vs : List Value}
    (F : Fr h₀ L h' m) (N : News h₀ L h' ((y, tupOf [va, vb]) :: (I, oI) :: (C, oC) :: (D, LCg.lst ys) :: (l, ol) :: (c, oc) :: own')) (l1 : I < y ∧ @LT.lt Nat _ C y ∧ @LT.lt Nat _ D y)
    (off : LCg.Off3 I C D ((l, ol) :: (c, oc) :: own')) (hP : PairsAt own' ys (pds js i)) (hs : ∀ p ∈ own, p ∈ own') (hN : Nums own vs js) (ha : vs[2 * i]? = some va) (hb : vs[2 * i + 1]? = some vb) (hyl : @LT.lt Nat _ l y) (hyc : @LT.lt Nat _ c y) (hoff : ∀ p ∈ own', p.1 ≠ l ∧ p.1 ≠ c) :
    LCg.CompEnd h₀ L m s₁ I oI C oC D (LCg.lst ys) (fun _ => True) (fun z news' => ∃ own2, news' = (l, ol) :: (c, oc) :: own2 ∧ PairsAt own2 (ys ++ [z]) (pds js (i + 1)) ∧ (∀ p ∈ own, p ∈ own2) ∧ (∀ p ∈ own2, p.1 ≠ l ∧ p.1 ≠ c)) (.ref y) { s₁ with heap := h', toks := tk } := by
  refine LCg.CompEnd.intro F N ((l, ol) :: (c, oc) :: (y, tupOf [va, vb]) :: own') (fun p hp => ?_) ⟨off.1, off.2.1, ⟨(Nat.ne_of_lt l1.1).symm, (Nat.ne_of_lt l1.2.1).symm, (Nat.ne_of_lt l1.2.2).symm⟩, off.2.2⟩ trivial
    ⟨(y, tupOf [va, vb]) :: own', rfl, ?_, fun p hp => .tail _ (hs p hp), List.forall_mem_cons.mpr ⟨⟨(Nat.ne_of_lt hyl).symm, (Nat.ne_of_lt hyc).symm⟩, hoff⟩⟩
  · simp only [List.mem_cons] at hp ⊢
    rcases hp with h | h | h | h | h | h | h
    · exact .inr (.inl h)
    · exact .inr (.inr (.inl h))
    · exact .inr (.inr (.inr (.inl h)))
    · exact .inr (.inr (.inr (.inr (.inl h))))
    · exact .inr (.inr (.inr (.inr (.inr (.inl h)))))
    · exact .inl h
    · exact .inr (.inr (.inr (.inr (.inr (.inr h)))))
  · rw [pds_succ]
    refine .snoc (hP.mono fun p hp => .tail _ hp) (.head _) ?_ ?_
    · exact (hN.get ha).mono fun p hp => .tail _ (hs p hp)
    · exact (hN.get hb).mono fun p hp => .tail _ (hs p hp)
theorem off1_mem {D : Addr} : ∀ {l : List (Addr × Obj)}, LCg.Off1 D l → ∀ p ∈ l, p.1 ≠ D
  | [], _, _, h => nomatch h
  | _ :: _, x, p, h => by
    rcases List.mem_cons.mp h with rfl | h
    · exact x.1
    · exact off1_mem x.2 p h

end
section
theorem unpark {P : Prop} (h : P) : id P := h
set_option maxHeartbeats 8000000 in
theorem c_points (w : World) (mean : ExcName → Option Value) (mg mb : Str → Option Value) (T : Str) (tt : Tok) (hT : Short T) (js : List Nat) (hj : js.length ≤ 6) (hs : ScanStart T.cps.toList js) (news : List (Addr × Obj)) :
    ∀ (dp un : Nat) (gd : Option (List Code)) (cn : Str) (cs : Scope) (a : Addr) (ccd : Value) (cl : List (Str × Addr)) (A₀ : Around) (base h₀ : Heap) (L : Addr) (m : Str → Option Value) (s : Shared) (Q E : Value → Shared → Prop),
    Below A₀ base [] h₀ → (hd.heap_39 w.params).In base → Top hd.view_39 (looseW hd.view_39 [Str.ofString "MOST_VALUE", Str.ofString "fraction"]) mean mg mb base → Fr h₀ L s.heap m → (hd.heap_39 w.params).In h₀ → News h₀ L s.heap news → Top hd.view_39 (looseW hd.view_39 [Str.ofString "MOST_VALUE", Str.ofString "fraction"]) mean mg mb h₀ → cs.kind = .function → dp + 30 < recursionLimit → un + 300 < cLine →
    (∀ l ys n own h' tk', PairsAt own ys (pds js (js.length / 2)) → Fr h₀ L h' m → News h₀ L h' ((l, listOf ys.toArray n) :: own) → (∀ p ∈ news, p ∈ own) → (∀ p ∈ own, p.1 ≠ l) → Q (.ref l) { s with heap := h', toks := tk' }) →
    wpAny (model PySem.Challenge.rw_xm0729_01.row.prog w) (ktrTop dp un gd cn cs L a ccd cl []) (call (.ref 253) [.str T tt]) Q E s := by
  k_fill
  intro dp un gd cn cs a ccd cl A₀ base h₀ L m s Q E B XB TB F X N TT hck hdp hun hret
  refine wpAny_call ?_
  k_dflt (refine' enter_cells ?k1 ?k2 ?k3 ?k4 ?k5 ?kA ?kF ?kK ?k6 ?k7 ?k8 ?k9 ?kB ?kD ?_ ?c2 ?c3 ?c4; (case kA => exact rfl); (case kF => exact rfl); (case kK => assumption); (case k1 => k_asm); (case k2 => k_asm); (case k3 => k_asm); (case k4 => k_asm); (case k5 => k_asm); (case k6 => k_is); (case k7 => k_is); (case k8 => ktr_room); (case k9 => exact BindsTo.of_eq rfl); (case kB => exact rfl); (case kD => decide +kernel); (case c2 => exact rfl); (case c3 => exact rfl); (case c4 => exact rfl); k_whole; intro g' L' h' tk' cells' FG' F' N' Y' B' X' T' l1; (try k_lt l1); k_cells Y'; (try simp only [List.cons_append, List.nil_append] at N'); (try dsimp only); (try k_lift B'); (try k_fold))
  have hneC : ∀ p ∈ news, p.1 ≠ L' + 1 := fun p hp => Nat.ne_of_lt (Nat.lt_succ_of_lt (l1 p hp))
  k_steps
  rename_i x9 d9 h1 l1 l2 g1 L1 h2 B1 X1 T1 tk1 h3 h4 F1 N1 Tc1 kX1 l9 h5 la9 D9 h6 lb9 h7 h8 h9 oc9 doc9
  refine unpark ?_
  obtain ⟨u, F8⟩ : ∃ u, Fr g' L' hh6 (kstB u [(Str.ofString "scanner", .ref x9)]) := ⟨_, MapIs.fr (stored := []) (ps := [(Str.ofString "scanner", .ref x9)]) ⟨List.forall_mem_cons.mpr ⟨if_pos rfl, fun _ h => nomatch h⟩, fun z _ _ => rfl⟩ F9⟩
  obtain ⟨ta, tc, N8⟩ : ∃ ta tc, News g' L' hh6 ((D9, tupOf [.ref x9, .ref l9]) :: (l9, listOf #[] 0) :: (x9, instObj 244 d9) :: (d9, dictOf [⟨PyData.keyHash w.params (Str.ofString "text"), .str (Str.ofString "text") ta, .str T tt⟩, ⟨PyData.keyHash w.params (Str.ofString "at"), .str (Str.ofString "at") tc, .int i9 td9⟩] 2) :: (L' + 1, oc9) :: news) := ⟨_, _, N9⟩
  have hdx : @LT.lt Nat _ d9 x9 := l2
  have hxl : @LT.lt Nat _ x9 l9 := la9.1
  have hcd : @LT.lt Nat _ (L' + 1) d9 := l1.1
  have hnl : ∀ p ∈ news, p.1 < d9 := fun p hp => ktn_ltOf l1.2 p hp
  clear N9 F9 N1 F1 B1 X1 T1 Tc1 kX1 la9 lb9 l1 l2
  k_dflt (refine whl_start 0 ?_)
  refine whl_split (D := fun s1 => id (∃ (g2 : Heap) (vs : List Value) (nn : Nat) (own : List (Addr × Obj)) (h2 : Heap) (tk2 : Nat), s1 = { s with heap := h2, toks := tk2 } ∧ KtsTurn ([envX cn cs L a ccd cl].filterMap (·.frame)) g' g2 ∧ Nums own vs js ∧ (∀ p ∈ news, p ∈ own) ∧ (∀ p ∈ own, p.1 ≠ l9 ∧ p.1 ≠ L' + 1) ∧
    Below (ktrTop dp un gd cn cs L a ccd cl []) base [envX cn cs L a ccd cl] g2 ∧ (hd.heap_39 w.params).In g2 ∧ Top hd.view_39 (looseW hd.view_39 [Str.ofString "MOST_VALUE", Str.ofString "fraction"]) mean mg mb g2 ∧ Fr g2 L' h2 (kstB u [(Str.ofString "scanner", .ref x9)]) ∧ News g2 L' h2 ((l9, listOf vs.toArray nn) :: (L' + 1, oc9) :: own))) ?_ ?_
  · rintro s1 ⟨g2, vs, nn, own, h2, tk2, rfl, T2, hN, hsub, hoff, B2, X2, P2, F2, N2⟩
    have hne1 : ∀ p ∈ own, p.1 ≠ l9 := fun p hp => (hoff p hp).1
    have hne4 : ∀ p ∈ own, p.1 ≠ L' + 1 := fun p hp => (hoff p hp).2
    have hcl : @LT.lt Nat _ (L' + 1) l9 := Nat.lt_trans hcd (Nat.lt_trans hdx hxl)
    have zv : vs.length ≤ 6 := by rw [hN.len]; exact hj
    k_steps
    refine unpark ?_
    k_dflt (refine listComp_S (h₀ := g2) (L := L') (m := kstB u [(Str.ofString "scanner", .ref x9)]) (by exact rfl) (by with_unfolding_all rfl) (by decide) (by rfl) (by decide) (by rfl) (by intro _; with_unfolding_all rfl) ?_)
    k_steps
    (rename News g2 L' _ _ => N3); (rename Fr g2 L' _ _ => F3); (rename IsRange _ _ _ _ _ _ _ _ => iR)
    refine ⟨_, 0, _, 2, _, _, _, vs.length / 2, _, rfl, F3, N3, iR, rng_small zv, rng_size zv, by rw [sizeLine_eq]; omega, fun g3 => ?_⟩
    clear iR N3 F3
    refine comp_ind (fun i ys news' => ∃ own', news' = (l9, listOf vs.toArray nn) :: (L' + 1, oc9) :: own' ∧ PairsAt own' ys (pds js i) ∧ (∀ p ∈ own, p ∈ own') ∧ (∀ p ∈ own', p.1 ≠ l9 ∧ p.1 ≠ L' + 1)) ?tn ?dn _ 0 [] _ (Nat.zero_add _) ⟨own, rfl, .nil, fun p hp => hp, hoff⟩
    case tn =>
      rintro i ys news' v I oI C oC D m2 h3 tk3 E3 hi ⟨own', rfl, hP, hs', hoff'⟩ ⟨t3, rfl⟩ hC hx F3 N3 off ne
      obtain ⟨va, ha⟩ : ∃ va, vs[2 * i]? = some va := ⟨vs[2 * i]'(by omega), by simp⟩
      obtain ⟨vb, hb⟩ : ∃ vb, vs[2 * i + 1]? = some vb := ⟨vs[2 * i + 1]'(by omega), by simp⟩
      have ha2 : vs[((0 : Int) + (i : Int) * 2).toNat]? = some va := by rw [show ((0 : Int) + (i : Int) * 2).toNat = 2 * i by omega]; exact ha
      have hb2 : vs[((0 : Int) + (i : Int) * 2 + 1).toNat]? = some vb := by rw [show ((0 : Int) + (i : Int) * 2 + 1).toNat = 2 * i + 1 by omega]; exact hb
      k_steps
      (rename News g2 L' _ _ => N9); (rename Fr g2 L' _ _ => F9); (rename (I < _ ∧ _) => l4)
      exact pair_end F9 N9 ⟨l4.1, l4.2.1, l4.2.2.1⟩ off hP hs' hN ha hb l4.2.2.2.1 l4.2.2.2.2.1 hoff'
    case dn =>
      rintro ys news' ⟨own', rfl, hP, hs', hoff'⟩
      k_steps
      (rename News h₀ L _ _ => N9); (rename Fr h₀ L _ _ => F9); (rename (l9 ≠ _ ∧ _) => o9)
      refine hret _ ys _ ((l9, listOf vs.toArray nn) :: (L' + 1, oc9) :: own') _ _ ?_ F9 N9 (fun p hp => .tail _ (.tail _ (hs' p (hsub p hp)))) (off1_mem o9)
      rw [← hN.len]
      exact hP.mono fun p hp => .tail _ (.tail _ hp)
  · refine whl_by (by first | passes_own | with_unfolding_all passes_own) (fun n s1 => ∃ (i : Int) (td : Tok) (rs dn : List Nat) (vs : List Value) (nn : Nat) (own : List (Addr × Obj)) (h1 : Heap) (tk1 : Nat), s1 = { s with heap := h1, toks := tk1 } ∧ 0 ≤ i ∧ ScanL (tl T i) rs ∧ dn ++ rs = js ∧ rs.length = n ∧ Nums own vs dn ∧ (∀ p ∈ news, p ∈ own) ∧ (∀ p ∈ own, p.1 ≠ l9 ∧ p.1 ≠ d9 ∧ p.1 ≠ x9 ∧ p.1 ≠ L' + 1) ∧
      Fr g' L' h1 (kstB u [(Str.ofString "scanner", .ref x9)]) ∧ News g' L' h1 ((l9, listOf vs.toArray nn) :: (x9, instObj 244 d9) :: (d9, dictOf [⟨PyData.keyHash w.params (Str.ofString "text"), .str (Str.ofString "text") ta, .str T tt⟩, ⟨PyData.keyHash w.params (Str.ofString "at"), .str (Str.ofString "at") tc, .int i td⟩] 2) :: (L' + 1, oc9) :: own)) ?turn js.length _ ?start
    case start =>
      refine ⟨i9, td9, js, [], [], 0, news, hh6, _, rfl, hl9, ?_, rfl, rfl, .nil, fun p hp => hp, fun p hp => ?_, F8, fun p hp => N8 p (.tail _ hp)⟩
      · rw [hi9]
        have : tl T (stop isB T 0) = (tl T 0).drop (span isB (tl T 0)) := by
          show tl T (0 + (span isB (tl T 0) : Nat)) = _
          exact tl_add _ (Int.le_refl 0)
        rw [this, tl_zero]
        exact hs
      · have := hnl p hp
        exact ⟨Nat.ne_of_lt (Nat.lt_trans this (Nat.lt_trans hdx hxl)), Nat.ne_of_lt this, Nat.ne_of_lt (Nat.lt_trans this hdx), hneC p hp⟩
    case turn =>
      rintro n s1 ⟨i, td, rs, dn, vs, nn, own, h1, tk1, rfl, hi0, hsc, hdn, hn, hN, hsub, hoff, F1, N1⟩
      have zv := hN.len
      have zj : dn.length + rs.length ≤ 6 := by rw [← List.length_append, hdn]; exact hj
      have hne1 : ∀ p ∈ own, p.1 ≠ l9 := fun p hp => (hoff p hp).1
      have hne2 : ∀ p ∈ own, p.1 ≠ d9 := fun p hp => (hoff p hp).2.1
      have hne3 : ∀ p ∈ own, p.1 ≠ x9 := fun p hp => (hoff p hp).2.2.1
      have hne4 : ∀ p ∈ own, p.1 ≠ L' + 1 := fun p hp => (hoff p hp).2.2.2
      cases hsc with
      | stop hl =>
        have hla : looksAt T i = false := (looks_tl T i).trans hl
        have hN' : Nums own vs js := by rw [← hdn, List.append_nil]; exact hN
        k_steps
        (rename News g' L' _ _ => N9); (rename Fr g' L' _ _ => F9)
        refine unpark ?_
        exact ⟨g', vs, nn, own, _, _, rfl, KtsTurn.refl, hN', hsub, fun p hp => ⟨hne1 p hp, hne4 p hp⟩, B', X', T', F9, fun p hp => N9 p (mem_skip2 hp)⟩
      | bad1 hl hm =>
        have hla : looksAt T i = true := (looks_tl T i).trans hl
        have hN' : Nums own vs js := by rw [← hdn, List.append_nil]; exact hN
        k_steps
        refine unpark ?_
        k_dflt (refine' number_bad hT hi0 (.inl hm) (rest := (l9, listOf vs.toArray nn) :: (L' + 1, oc9) :: own) ?B XB TB ?F ?X ?N ?T ?ck ?hx ?hd hdx ?ne ?sub ?dp ?un ?_; (case B => k_asm); (case F => k_asm); (case X => k_asm); (case N => k_asm); (case T => k_asm); (case ck => exact rfl); (case hx => k_mem); (case hd => k_mem); (case ne => exact List.forall_mem_cons.mpr ⟨(Nat.ne_of_lt (Nat.lt_trans hdx hxl)).symm, List.forall_mem_cons.mpr ⟨Nat.ne_of_lt hcd, hne2⟩⟩); (case sub => exact fun p hp => mem_skip2 hp); (case dp => ktr_room); (case un => ktr_units))
        intro g9 e9 h9 tk9 Fg9 R9 U9
        k_dflt (refine' caught_C0 R9 Fg9 ?K U9 XB TB ?ex ?q ?_ ?hk ?hx ?hd ?hE; (case K => k_asm); (case ex => k_is); (case q => kernel_rfl); (case hk => exact rfl); (case hx => exact rfl); (case hd => decide); (case hE => first | passes_own | with_unfolding_all passes_own))
        clear R9 U9
        intro h8 g8 T8 F8 N8 K8 X8 P8
        k_steps
        refine unpark ?_
        exact ⟨g8, vs, nn, own, _, _, rfl, T8, hN', hsub, fun p hp => ⟨hne1 p hp, hne4 p hp⟩, K8, X8, P8, F8, N8⟩
      | bad2 hl hm hw =>
        have hla : looksAt T i = true := (looks_tl T i).trans hl
        have hN' : Nums own vs js := by rw [← hdn, List.append_nil]; exact hN
        k_steps
        refine unpark ?_
        k_dflt (refine' number_bad hT hi0 (.inr ⟨hm, hw⟩) (rest := (l9, listOf vs.toArray nn) :: (L' + 1, oc9) :: own) ?B XB TB ?F ?X ?N ?T ?ck ?hx ?hd hdx ?ne ?sub ?dp ?un ?_; (case B => k_asm); (case F => k_asm); (case X => k_asm); (case N => k_asm); (case T => k_asm); (case ck => exact rfl); (case hx => k_mem); (case hd => k_mem); (case ne => exact List.forall_mem_cons.mpr ⟨(Nat.ne_of_lt (Nat.lt_trans hdx hxl)).symm, List.forall_mem_cons.mpr ⟨Nat.ne_of_lt hcd, hne2⟩⟩); (case sub => exact fun p hp => mem_skip2 hp); (case dp => ktr_room); (case un => ktr_units))
        intro g9 e9 h9 tk9 Fg9 R9 U9
        k_dflt (refine' caught_C0 R9 Fg9 ?K U9 XB TB ?ex ?q ?_ ?hk ?hx ?hd ?hE; (case K => k_asm); (case ex => k_is); (case q => kernel_rfl); (case hk => exact rfl); (case hx => exact rfl); (case hd => decide); (case hE => first | passes_own | with_unfolding_all passes_own))
        clear R9 U9
        intro h8 g8 T8 F8 N8 K8 X8 P8
        k_steps
        refine unpark ?_
        exact ⟨g8, vs, nn, own, _, _, rfl, T8, hN', hsub, fun p hp => ⟨hne1 p hp, hne4 p hp⟩, K8, X8, P8, F8, N8⟩
      | @num _ j js' hl hm hw hi hs' =>
        have hla : looksAt T i = true := (looks_tl T i).trans hl
        rw [List.length_cons] at zj
        k_steps
        refine unpark ?_
        k_dflt (refine' number_use hT hi0 hi hm hw ?B ?F ?X ?N ?T ?ck ?hx hdx ?U ?dp ?un ?_; (case B => k_asm); (case F => k_asm); (case X => k_asm); (case N => k_asm); (case T => k_asm); (case ck => exact rfl); (case hx => k_mem); (case U => intro i td'; k_upd); (case dp => ktr_room); (case un => ktr_units))
        intro y9 h9 tk9 td8 tp9 tq9 F9 N9 l1
        have l0 := l1
        k_lt l1
        have hnn : 0 ≤ numEnd T i := by have e := numEnd_tl (T := T) hi0; omega
        k_steps
        (rename News g' L' _ _ => N7); (rename Fr g' L' _ _ => F7); rename (_ = sepEnd T _) => hs9
        subst hs9
        simp only [List.push_toArray] at N7
        refine unpark ?_
        refine ⟨js'.length, by rw [← hn, List.length_cons]; exact Nat.lt_succ_self _, sepEnd T (numEnd T i), _, js', dn ++ [j], vs ++ [.ref y9], _, (y9, tupOf [.int (wdN j).1 tp9, .int (wdN j).2 tq9]) :: own, _, _, rfl, sep_nn hi0, ?_, ?_, rfl, .snoc (hN.mono fun p hp => .tail _ hp) ⟨y9, tp9, tq9, rfl, .head _⟩, fun p hp => .tail _ (hsub p hp), ?_, F7, fun p hp => N7 p (mem_rot hp)⟩
        · rw [scan_next hi0]; exact hs'
        · rw [List.append_assoc]; exact hdn
        · exact List.forall_mem_cons.mpr ⟨⟨(Nat.ne_of_lt l1.1).symm, (Nat.ne_of_lt l1.2.2.1).symm, (Nat.ne_of_lt l1.2.1).symm, (Nat.ne_of_lt l1.2.2.2.1).symm⟩, hoff⟩

end
theorem laid24 : True := by
  k_with_none
  k_with "k_room" => ktr_room
  k_with "k_all" => assumption
  k_with "call ref" => (k_here; (try dsimp only [List.append_nil, List.cons_append, List.nil_append]); (with_reducible show wpAny _ _ (call (Value.ref 253) [_]) _ _ _); refine parked ?_)
  k_with "call ref" => (k_here; (try dsimp only [List.append_nil, List.cons_append, List.nil_append]); (with_reducible show wpAny _ _ (call (Value.ref 260) [_]) _ _ _); refine parked ?_)
  k_with "call ref" => (k_here; (try dsimp only [List.append_nil, List.cons_append, List.nil_append]); (with_reducible show wpAny _ _ (call (Value.ref 295) [_]) _ _ _); refine parked ?_)
  k_with "call ref" => (k_here; (try dsimp only [List.append_nil, List.cons_append, List.nil_append]); (with_reducible show wpAny _ _ (call (Value.ref 274) [_, _]) _ _ _); refine parked ?_)
  k_with "exec Assign cons ListComp" => (k_here; refine parked ?_)
  k_with "exec Assign" => (k_here; (with_reducible show wpAny _ _ (exec (Stmt.Assign _ (Expr.ListComp _ _ _ _) _) _) _ _ _); refine parked ?_)
  k_with "compareOp NotEq ref ref" => (k_here; refine parked ?_)
  k_with "compareOp Eq ref ref" => (k_here; refine parked ?_)
  k_with "call builtin:len" => (k_here; (with_reducible show wpAny _ _ (call (Value.builtin "len") [Value.ref _]) _ _ _); k_dflt (refine' r_llen ?hzN ?hzm ?hzz ?_; (case hzN => k_asm); (case hzm => k_mem); (case hzz => omega)))
  k_with "subscriptTail" => (k_here; (with_reducible show wpAny _ _ (subscriptTail _ _ (Value.ref _) (Value.int _ _)) _ _ _); k_dflt (refine' r_li ?hzN ?hzm ?hza ?hzb ?hzx ?_; (case hzN => k_asm); (case hzm => k_mem); (case hza => omega); (case hzb => omega); (case hzx => assumption)))
  k_with "binaryOp Mult int int" => (k_here; refine r_dbl (by omega) (by omega) ?_)
  k_with "CompSrc" => (refine parked ?_)
  k_with "binaryOp Add str str" => (k_here; (with_reducible show wpAny _ _ (binaryOp Operator.Add (Value.str _ _) (Value.str _ _)) _ _ _); k_dflt (refine' add_str ?_ ?hzz; (case hzz => (simp only [Str.length_append, sizeLine_eq]; omega)); intro _ _))
  trivial
section
theorem first_pairs {own2 : List (Addr × Obj)} {d1 d2 d3 : Addr} {t1 t2 t3 t4 : Tok} (h3 : (d3, tupOf [.ref d1, .ref d2]) ∈ own2) (h1 : (d1, tupOf [.int 1 t1, .int 1 t2]) ∈ own2) (h2 : (d2, tupOf [.int 2 t3, .int 1 t4]) ∈ own2) :
    PairsAt own2 [.ref d3] (pds [9, 10] ([9, 10].length / 2)) :=
  PairsAt.snoc (ys := []) (ds := []) (i := 9) (j := 10) .nil h3 ⟨d1, t1, t2, rfl, h1⟩ ⟨d2, t3, t4, rfl, h2⟩
/-- a ledger without the address c -/
def offc (c : Addr) (own : List (Addr × Obj)) : List (Addr × Obj) := own.filter (fun p => p.1 != c)
theorem offc_ne {c : Addr} {own : List (Addr × Obj)} : ∀ p ∈ offc c own, p.1 ≠ c := fun p hp => by
  have := (List.mem_filter.mp hp).2
  simpa using this
theorem offc_sub {c : Addr} {own : List (Addr × Obj)} : ∀ p ∈ offc c own, p ∈ own := fun p hp => (List.mem_filter.mp hp).1
theorem offc_mem {c : Addr} {own : List (Addr × Obj)} {p : Addr × Obj} (h : p ∈ own) (hne : p.1 ≠ c) : p ∈ offc c own := List.mem_filter.mpr ⟨h, by simpa using hne⟩
theorem tup_ne {h₀ h : Heap} {L c z : Addr} {all : List (Addr × Obj)} {oc : Obj} {v : Option Value} {vs : List Value} (N : News h₀ L h all) (hc : (c, oc) ∈ all) (hd : oc.data = .cell v) (hz : (z, tupOf vs) ∈ all) : z ≠ c := fun e => by
  subst e
  have a := (N _ hc).1
  rw [(N _ hz).1] at a
  cases a
  cases hd
theorem nums_off {h₀ h : Heap} {L c : Addr} {own all : List (Addr × Obj)} {oc : Obj} {v : Option Value} {vs : List Value} {js : List Nat} (N : News h₀ L h all) (hs : ∀ p ∈ own, p ∈ all) (hc : (c, oc) ∈ all) (hd : oc.data = .cell v) (hN : Nums own vs js) : Nums (offc c own) vs js := by
  induction hN with
  | nil => exact .nil
  | snoc _ hv ih =>
    obtain ⟨z, tp, tq, rfl, hm⟩ := hv
    exact .snoc ih ⟨z, tp, tq, rfl, offc_mem hm (tup_ne N hc hd (hs _ hm))⟩
theorem r_half {prog : Program} {w : World} {A : Around} {E : Value → Shared → Prop} {s : Shared} {n : Nat} {t u : Tok} {Q : Value → Shared → Prop} (hn : n ≤ 6) (h : Q (.int ((n / 2 : Nat) : Int) s.toks) { s with toks := s.toks + 1 }) : wpAny (model prog w) A (binaryOp .FloorDiv (.int (n : Int) t) (.int 2 u)) Q E s :=
  floordiv_int (by omega) (by rw [Int.fdiv_eq_ediv_of_nonneg _ (by omega)]; exact h) (Or.inl (PyProof.noPylong_small (by omega)))
theorem rng1_small {n : Nat} (h : n ≤ 6) : Builtin.Range.small 0 (Int.fdiv (n : Int) 2) 1 = true := by
  rcases six h with rfl | rfl | rfl | rfl | rfl | rfl | rfl <;> decide
theorem rng1_size {n : Nat} (h : n ≤ 6) : Builtin.Range.rangeSize 0 (Int.fdiv (n : Int) 2) 1 = ((n / 2 : Nat) : Int) := by
  rcases six h with rfl | rfl | rfl | rfl | rfl | rfl | rfl <;> decide
theorem own_split {h₀ h : Heap} {L c : Addr} {own all : List (Addr × Obj)} {oc : Obj} {v : Option Value} {vs : List Value} {js : List Nat} (N : News h₀ L h all) (hs : ∀ p ∈ own, p ∈ all) (hc : (c, oc) ∈ own) (hd : oc.data = .cell v) (hN : Nums own vs js) :
    ∃ own2, Nums own2 vs js ∧ ∀ p ∈ own2, p ∈ own ∧ p.1 ≠ c := ⟨offc c own, nums_off N hs (hs _ hc) hd hN, fun p hp => ⟨offc_sub p hp, offc_ne p hp⟩⟩
theorem mem_in3 {α : Type} {p a b c d : α} {r own : List α} (h : p ∈ a :: b :: c :: d :: r) (hd : d ∈ own) (hr : ∀ q ∈ r, q ∈ own) : p ∈ a :: b :: c :: own := by
  simp only [List.mem_cons] at h ⊢
  rcases h with h | h | h | h | h
  · exact .inl h
  · exact .inr (.inl h)
  · exact .inr (.inr (.inl h))
  · exact .inr (.inr (.inr (h ▸ hd)))
  · exact .inr (.inr (.inr (hr _ h)))
theorem r_dbl {prog : Program} {w : World} {A : Around} {E : Value → Shared → Prop} {s : Shared} {k : Int} {t u : Tok} {Q : Value → Shared → Prop} (h0 : 0 ≤ k) (h1 : k < 10) (h : Q (.int (2 * k) s.toks) { s with toks := s.toks + 1 }) : wpAny (model prog w) A (binaryOp .Mult (.int 2 t) (.int k u)) Q E s :=
  mul_int h (IntMulOk.of_right (intBits_le_64 (by omega) (by omega)))
/-- behind a turn of the law's own comprehension -/
theorem pair_end3 {h₀ h' : Heap} {L I C D y l c z : Addr} {m : Str → Option Value} {oI oC oc ol oz : Obj} {s₁ : Shared} {tk : Nat} {ys : List Value} {va vb : Value} {js : List Nat} {i : Nat} {own own' : List (Addr × Obj)} {vs : List Value}
    (F : Fr h₀ L h' m) (N : News h₀ L h' ((y, tupOf [va, vb]) :: (I, oI) :: (C, oC) :: (D, LCg.lst ys) :: (l, ol) :: (z, oz) :: (c, oc) :: own')) (l1 : I < y ∧ @LT.lt Nat _ C y ∧ @LT.lt Nat _ D y ∧ @LT.lt Nat _ l y ∧ @LT.lt Nat _ z y ∧ @LT.lt Nat _ c y ∧ AllLt y own')
    (off : LCg.Off3 I C D ((l, ol) :: (z, oz) :: (c, oc) :: own')) (hP : PairsAt own' ys (pds js i)) (hs : ∀ p ∈ own, p ∈ own') (hN : Nums own vs js) (ha : vs[2 * i]? = some va) (hb : vs[2 * i + 1]? = some vb) (hoff : ∀ p ∈ own', p.1 ≠ l ∧ p.1 ≠ z ∧ p.1 ≠ c) :
    LCg.CompEnd h₀ L m s₁ I oI C oC D (LCg.lst ys) (fun _ => True) (fun v news' => ∃ own2, news' = (l, ol) :: (z, oz) :: (c, oc) :: own2 ∧ PairsAt own2 (ys ++ [v]) (pds js (i + 1)) ∧ (∀ p ∈ own, p ∈ own2) ∧ (∀ p ∈ own2, p.1 ≠ l ∧ p.1 ≠ z ∧ p.1 ≠ c)) (.ref y) { s₁ with heap := h', toks := tk } := by
  refine LCg.CompEnd.intro F N ((l, ol) :: (z, oz) :: (c, oc) :: (y, tupOf [va, vb]) :: own') (fun p hp => ?_) ⟨off.1, off.2.1, off.2.2.1, ⟨(Nat.ne_of_lt l1.1).symm, (Nat.ne_of_lt l1.2.1).symm, (Nat.ne_of_lt l1.2.2.1).symm⟩, off.2.2.2⟩ trivial
    ⟨(y, tupOf [va, vb]) :: own', rfl, ?_, fun p hp => .tail _ (hs p hp), List.forall_mem_cons.mpr ⟨⟨(Nat.ne_of_lt l1.2.2.2.1).symm, (Nat.ne_of_lt l1.2.2.2.2.1).symm, (Nat.ne_of_lt l1.2.2.2.2.2.1).symm⟩, hoff⟩⟩
  · simp only [List.mem_cons] at hp ⊢
    rcases hp with h | h | h | h | h | h | h | h
    · exact .inr (.inl h)
    · exact .inr (.inr (.inl h))
    · exact .inr (.inr (.inr (.inl h)))
    · exact .inr (.inr (.inr (.inr (.inl h))))
    · exact .inr (.inr (.inr (.inr (.inr (.inl h)))))
    · exact .inr (.inr (.inr (.inr (.inr (.inr (.inl h))))))
    · exact .inl h
    · exact .inr (.inr (.inr (.inr (.inr (.inr (.inr h))))))
  · rw [pds_succ]
    refine .snoc (hP.mono fun p hp => .tail _ hp) (.head _) ?_ ?_
    · exact (hN.get ha).mono fun p hp => .tail _ (hs p hp)
    · exact (hN.get hb).mono fun p hp => .tail _ (hs p hp)

end
section
set_option maxHeartbeats 8000000 in
theorem law1 : PySem.Challenge.rw_xm0729_01.Holds := hd (by
  k_go0
  (all_goals try k_fold)
  k_steps
  refine unpark ?_
  have hs1 : Short (Str.ofString " 1 2") := by unfold Short; decide +kernel
  (rename (¬ (_ : Int) < _) => hcond9); (rename IntsAre _ _ => hI9); (rename Heap.IsList _ _ _ => hL9)
  (rename (_ = Data.cell _) => hcell0)
  k_dflt (refine' c_points _ _ _ _ (Str.ofString " 1 2") _ hs1 [9, 10] (by decide) first_line _ _ _ _ _ _ _ _ _ _ _ _ _ _ _ _ _ ?B ?XB ?TB ?F ?X ?N ?T ?ck ?dp ?un ?_; (case B => k_asm); (case XB => k_asm); (case TB => k_asm); (case F => k_asm); (case X => k_asm); (case N => k_asm); (case T => k_asm); (case ck => exact rfl); (case dp => ktr_room); (case un => ktr_units))
  intro la ysa na owna ha tka hPa Fa Na hsa hoa
  k_steps
  refine unpark ?_
  (rename News _ _ _ _ => N9)
  refine pairs_ne N9 (by (repeat (first | exact .head _ | refine .tail _ ?_))) (.head _) (own := owna) (fun p hp => by (repeat (first | exact hp | refine .tail _ ?_))) (own2 := _ :: _ :: _ :: _) (fun p hp => .tail _ hp) hPa (first_pairs (.head _) (.tail _ (.tail _ (.head _))) (.tail _ (.head _))) (by ktr_units) ?_
  k_steps
  refine unpark ?_
  (rename News _ _ _ _ => N8)
  k_dflt (refine' c_pool _ _ _ _ _ _ _ _ hI9 ?z _ _ _ _ _ _ _ _ _ _ _ _ _ _ _ _ _ ?B ?F ?X (fun p hp => N8 p (by have hp' := hsa p hp; (repeat (first | exact hp' | refine List.Mem.tail _ ?_)))) ?T ?ck ?dp ?un ?hl ?_; (case z => omega); (case B => k_asm); (case F => k_asm); (case X => k_asm); (case T => k_asm); (case ck => exact rfl); (case dp => ktr_room); (case un => ktr_units); (case hl => assumption))
  clear N8
  intro z a1 b1 ta tb nz hb tkb qa1 qa2 qa3 Fb Nb lz
  have lz2 : @LT.lt Nat _ _ z := lz _ (.head _)
  dsimp only at lz2
  k_steps
  refine unpark ?_
  k_dflt (refine' c_drawn _ _ _ _ z [_] a1 b1 ta tb nz (fun p hp => Nat.ne_of_lt (lz p hp)) qa1 qa2 qa3 _ _ _ _ _ _ _ _ _ _ _ _ _ _ _ _ _ ?B ?F ?X ?N ?T ?ck ?dp ?un ?_; (case B => k_asm); (case F => k_asm); (case X => k_asm); (case N => k_asm); (case T => k_asm); (case ck => exact rfl); (case dp => ktr_room); (case un => ktr_units))
  intro y lf T js vs tt nf a2 t2 b2 t3 n2 own hc tkc hD hj hN qb1 qb2 qb3 Fc Nc hsub hoz hof hlt1 hlt2
  have hcm := hsub _ (.head _)
  obtain ⟨own2, hN3, hs2⟩ := own_split Nc (fun p hp => .tail _ (.tail _ (.tail _ hp))) hcm hcell0 hN
  have hnc : ∀ p ∈ own2, p.1 ≠ _ := fun p hp => (hs2 p hp).2
  have hnz : ∀ p ∈ own2, p.1 ≠ z := fun p hp => hoz p (hs2 p hp).1
  have hnf : ∀ p ∈ own2, p.1 ≠ lf := fun p hp => hof p (hs2 p hp).1
  have Nd : News _ _ hc (_ :: _ :: _ :: _ :: own2) := fun p hp => Nc p (mem_in3 hp hcm fun q hq => (hs2 q hq).1)
  clear Nc hN hoz hof hsub
  have zv : vs.length ≤ 6 := by rw [hN3.len]; exact hj
  k_steps
  refine unpark ?_
  (rename Fr _ _ _ _ => F9); (rename News _ _ _ _ => N9)
  k_dflt (refine LCg.Assign_ListComp_U (F₀ := by exact F9) (by rfl) (by with_unfolding_all rfl) (by with_unfolding_all rfl) (by decide) (by rfl) (by decide) (by rfl) (by rfl) (by rfl) ?_ (by intro _; with_unfolding_all rfl))
  k_steps
  refine unpark ?_
  (rename News _ _ _ _ => N3); (rename Fr _ _ _ _ => F3); (rename IsRange _ _ _ _ _ _ _ _ => iR)
  refine LCg.CompSrc.range (by rfl) F3 (fun p hp => N3 p (.tail _ hp)) iR (rng1_small zv) (rng1_size zv) (by rw [sizeLine_eq]; omega) ?_
  intro g3
  clear iR N3 F3
  refine comp_ind (fun i ys news' => ∃ own', news' = _ :: _ :: _ :: own' ∧ PairsAt own' ys (pds js i) ∧ (∀ p ∈ own2, p ∈ own') ∧ (∀ p ∈ own', p.1 ≠ lf ∧ p.1 ≠ z ∧ p.1 ≠ _)) ?tn ?dn _ 0 [] _ (Nat.zero_add _) ⟨own2, rfl, .nil, fun p hp => hp, fun p hp => ⟨hnf p hp, hnz p hp, hnc p hp⟩⟩
  case tn =>
    rintro i ys news' v I oI C oC D m2 h3 tk3 E3 hi ⟨own', rfl, hP, hs', hoff'⟩ ⟨t3, rfl⟩ hC hx F3 N3 off ne
    obtain ⟨va, hva⟩ : ∃ va, vs[2 * i]? = some va := ⟨vs[2 * i]'(by omega), by simp⟩
    obtain ⟨vb, hvb⟩ : ∃ vb, vs[2 * i + 1]? = some vb := ⟨vs[2 * i + 1]'(by omega), by simp⟩
    have ha2 : vs[((2 : Int) * (0 + (i : Int))).toNat]? = some va := by rw [show ((2 : Int) * (0 + (i : Int))).toNat = 2 * i by omega]; exact hva
    have hb2 : vs[((2 : Int) * (0 + (i : Int)) + 1).toNat]? = some vb := by rw [show ((2 : Int) * (0 + (i : Int)) + 1).toNat = 2 * i + 1 by omega]; exact hvb
    k_steps
    (rename News _ _ _ _ => N9); (rename Fr _ _ _ _ => F9); (rename (I < _ ∧ _) => l4)
    exact pair_end3 F9 N9 l4 off hP hs' hN3 hva hvb hoff'
  case dn =>
    rintro ys news' ⟨own', rfl, hP, hs', hoff'⟩
    rw [hN3.len] at hP
    have hz' : ∀ p ∈ own', p.1 ≠ z := fun p hp => (hoff' p hp).2.1
    have zT := hD.len
    have hST : Short T := by unfold Short; omega
    k_steps
    refine unpark ?_
    k_dflt (refine' c_points _ _ _ _ T _ hST js hj (drawn_self hD) _ _ _ _ _ _ _ _ _ _ _ _ _ _ _ _ _ ?B ?XB ?TB ?F ?X ?N ?T ?ck ?dp ?un ?_; (case B => k_asm); (case XB => k_asm); (case TB => k_asm); (case F => k_asm); (case X => k_asm); (case N => k_asm); (case T => k_asm); (case ck => exact rfl); (case dp => ktr_room); (case un => ktr_units))
    intro l3 ys3 n3 own3 h3 tk3 hP3 F3 N3 hs3 ho3
    k_steps
    refine unpark ?_
    (rename News _ _ _ _ => N7)
    refine pairs_eq N7 (.head _) (.tail _ (hs3 _ (.tail _ (.head _)))) (own := own3) (fun p hp => .tail _ hp) (own2 := own') (fun p hp => .tail _ (hs3 _ (.tail _ (.tail _ (.tail _ (.tail _ (.tail _ hp))))))) hP3 hP (by ktr_units) ?_
    k_steps
    refine unpark ?_
    (rename News _ _ _ _ => N6)
    have N5 := fun p hp => N6 p (.tail _ (hs3 p hp))
    replace N5 : News _ _ _ _ := N5
    clear N6
    k_dflt (refine' src_use (c_one _ _ _ _ _ _ _ _ ?h1 ?h2) ?B ?F ?X ?N ?T ?ck ?U ?ha ?hb ?hb2 ?need ?dp ?un ?_; (case B => k_asm); (case F => k_asm); (case X => k_asm); (case N => k_asm); (case T => k_asm); (case ck => exact rfl); (case U => intro a2 t2 b2 t3 n2; k_upd); (case need => (intro p hp; rw [List.mem_singleton.mp hp]; exact ⟨by k_mem, by k_ne⟩)); (case h1 => first | decide | (simp; done)); (case h2 => first | decide | (simp; done)); (case ha => first | assumption | omega); (case hb => first | assumption | omega); (case hb2 => first | assumption | omega); (case dp => ktr_room); (case un => ktr_units))
    intro r9 a5 t5 b5 t6 n5 h5 tk5 hP5 qc1 qc2 qc3 F5 N5
    obtain ⟨i9, hi9, hv9⟩ := hP5
    obtain ⟨g9, tg9, hr9, hg9⟩ := strs_of (by repeat constructor) hv9
    subst hr9
    clear hv9 hi9
    have hg8 : g9 ∈ endsS := hg9
    have zg9 := len_of_mem hg9 10 (by decide +kernel)
    k_steps
    refine unpark ?_
    have hST2 : Short (T ++ g9) := by unfold Short; rw [Str.length_append]; omega
    k_dflt (refine' c_points _ _ _ _ (T ++ g9) _ hST2 js hj (drawn_more hD hg8) _ _ _ _ _ _ _ _ _ _ _ _ _ _ _ _ _ ?B ?XB ?TB ?F ?X ?N ?T ?ck ?dp ?un ?_; (case B => k_asm); (case XB => k_asm); (case TB => k_asm); (case F => k_asm); (case X => k_asm); (case N => k_asm); (case T => k_asm); (case ck => exact rfl); (case dp => ktr_room); (case un => ktr_units))
    intro l4 ys4 n4 own4 h4 tk4 hP4 F4 N4 hs4 ho4
    k_steps
    refine unpark ?_
    (rename News _ _ _ _ => N7)
    refine pairs_eq N7 (.head _) (.tail _ (hs4 _ (.tail _ (.head _)))) (own := own4) (fun p hp => .tail _ hp) (own2 := own') (fun p hp => .tail _ (hs4 _ (.tail _ (.tail _ (.tail _ (.tail _ (.tail _ hp))))))) hP4 hP (by ktr_units) ?_
    k_steps)

end
end Mine
theorem PySem.Challenge.cw_xm0729_01_holds : PySem.Challenge.rw_xm0729_01.Holds :=
  Mine.law1
